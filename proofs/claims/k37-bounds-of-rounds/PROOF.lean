import PyProof.Rows.All
import Wide.All
import OpenK.AllK
import Wide.FinOn
import PyProof.NoPylong
import KE.KStateDown
import HandS.ForMost
import HandS.Exc
import HandS.WordsExc
import HandS.Defaults
import HandS.MakeKw
import HandS.IsInst
import HandS.Wide
import HandS.CallRecv
import HandS.HeadWalk
import HandS.Flow
import HandS.TupAny
import PyProof.InstEq
import KE.KFmtOwn
import HandS.MakeKwOnly
import HandS.Conv
import HandS.Style
import HandS.More
import HandS.OwnEq
import HandS.DeepEq
import HandS.FStr
import KE.KExcInit
import HandS.ExcInit
import HandS.TryOnly
import HandS.TryMany
import HandS.ExcField
import HandS.CallSlots
import HandS.Deep
import HandS.Text
import HandS.RaiseMore
import KE.SortData
import PyProof.ReprRoads
import HandS.SortOrd
import HandS.SetKeys
import HandS.DictTup
import HandS.ListItems
import HandS.SortKw
import HandS.Head0
import HandS.Head1
import HandS.Head2
import HandS.HeadEnd
import HandS.HeadHook1
import HandS.HeadHook2
import HandS.HeadHook3
import HandS.HeadHook4
import HandS.Lambda
import HandS.Nested
import KE.DataFind
import HandS.ExcValue
import HandS.ExcIs
import KE.KExcIs
import KE.KTryMore
import HandS.StrMore
import HandS.StrSplit
import HandS.RevRange
import KE.DataMinMax
import KE.KDictZip
import HandS.Strs
import HandS.CallLocal
import PyProof.DictMoreH
import PyProof.MeetsDictList
import PySem.Challenge.RW_rideturns_k37_bounds_of_rounds
set_option exponentiation.threshold 10000
set_option Elab.async false
set_option linter.all false
set_option maxRecDepth 100000
set_option maxHeartbeats 4000000
namespace Rt
open PySem PySem.Spec PyProof.Rows L2
section
variable {X : Cx}
def CDivZ (_ j : Int) : Prop := j ≠ 0 ∧ j.natAbs.log2 < 9000
theorem op_fdivZ : OpR X (binaryOp .FloorDiv) (rI CDivZ fun i j => .int (i.fdiv j)) := opI fun i j _ _ _ _ _ hc q =>
  floordiv_int hc.1 q (.inl (PyProof.noPylong_of_log2 hc.2))
def rSubI : R2 := rI0 fun i j => .int (i - j)
def rFdivZ : R2 := rI CDivZ fun i j => .int (i.fdiv j)
def rModZ : R2 := rI (fun _ j => j ≠ 0) fun i j => .int (i.fmod j)
def rPowI : R2 := rI CPow fun i j => .int (i ^ j.toNat)
def rAddI : R2 := rI0 fun i j => .int (i + j)
def rAddStr : R2 := fun x y H Q => ∃ i j, x = .str i ∧ y = .str j ∧ i.length + j.length ≤ sizeLine ∧ Q (.str (i ++ j)) H
def rAddU (K : PySem.W.Frag) : R2 := fun x y H Q => rAddI x y H Q ∨ (rAddStr x y H Q ∨ (rCat x y H Q ∨ rCatT K x y H Q))
def rMulI : R2 := rI CMulW fun i j => .int (i * j)
def rMulU : R2 := fun x y H Q => rMulI x y H Q ∨ rRep x y H Q
theorem op_subU : OpR X (binaryOp .Sub) rSubI := op_sub
theorem op_modU : OpR X (binaryOp .Mod) rModZ := op_modN
theorem op_powU : OpR X (binaryOp .Pow) rPowI := op_pow
theorem op_fdivU : OpR X (binaryOp .FloorDiv) rFdivZ := op_fdivZ
theorem op_addU : OpR X (binaryOp .Add) (rAddU X.K) := op_add.or (op_add_str.or (op_cat.or op_catT))
theorem op_mulU : OpR X (binaryOp .Mult) rMulU := op_mulW.or op_rep
def rEqU (K : PySem.W.Frag) : R2 := fun x y H Q => rEq x y H Q ∨ rEqD K x y H Q
def rNeU (K : PySem.W.Frag) : R2 := fun x y H Q => rNe x y H Q ∨ rNeD K x y H Q
theorem op_eqU (hu : X.A.units + 64 < cLine) : OpR X (compareOp .Eq) (rEqU X.K) := op_eq.or (op_eqD hu)
theorem op_neU (hu : X.A.units + 64 < cLine) : OpR X (compareOp .NotEq) (rNeU X.K) := op_ne.or (op_neD hu)
def rLtI : R2 := rI0 fun i j => .bl (decide (i < j))
def rGtI : R2 := rI0 fun i j => .bl (decide (j < i))
def rGeI : R2 := rI0 fun i j => .bl (decide (j ≤ i))
theorem op_ltU : OpR X (compareOp .Lt) rLtI := op_lt
theorem op_gtU : OpR X (compareOp .Gt) rGtI := op_gt
theorem op_geU : OpR X (compareOp .GtE) rGeI := op_ge
def rIsN0 : R2 := fun x y H Q => y = .non ∧ Q (.bl (decide (x = .non))) H
theorem op_isU : OpR X (compareOp .Is) rIsN0 := op_isN
def rIxD : R2 := fun x y H Q => ∃ a v, x = .ref a ∧ DGet H a y (some v) ∧ Q v H
theorem ix_dict (hu : X.A.units + 1 < cLine) : IxR X rIxD := by
  intro value slice pins s σ H x y v u Q I rx ry h hs
  obtain ⟨a, z, rfl, g, q⟩ := h
  obtain rfl : v = Value.ref a := rx
  have hT := dict_typeIs I g
  unfold subscriptTail
  refine wpAny_bind ?_
  rw [getitemInPython_of_ne hT.not_modules]
  refine wpAny_bind (wpAny_specialOf hT PySem.F.slot_dict_getitem.lookup ?_)
  have fin : wpAny (model X.prog X.w) X.A (subscripted slice false (.ref a) u) (fun r s₃ => wpAny (model X.prog X.w) X.A (letTemporaryGo value (.ref a) r >>= fun _ => pure r) (EP X pins σ Q) X.xe s₃) X.xe s := by
    rw [hs]
    exact wpAny_operating (d_getItem hu I g ry fun w' s3 I3 rw' => wpAny_bind (wpAny_letTemporaryGo (wpAny_pure ⟨z, H, I3, rw', q⟩)))
  exact wpAny_pure (wpAny_bind fin)
def rIxU (K : PySem.W.Frag) : R2 := fun x y H Q => rIx K x y H Q ∨ rIxD x y H Q
theorem ix_U (hu : X.A.units + 1 < cLine) : IxR X (rIxU X.K) := ix_seq.or (ix_dict hu)
theorem PSet.or {t t' : V → V → V → Hp → (Hp → Prop) → Prop} (h : PSet X t) (h' : PSet X t') : PSet X (fun o i v H Q => t o i v H Q ∨ t' o i v H Q) := by
  intro pins s σ H o i v ov iv u Q I ro ri rv q
  rcases q with q | q
  · exact h pins s σ H o i v ov iv u Q I ro ri rv q
  · exact h' pins s σ H o i v ov iv u Q I ro ri rv q
def rSetD : V → V → V → Hp → (Hp → Prop) → Prop := fun o i v H Q => ∃ a H', o = .ref a ∧ DPut H a i v H' ∧ Q H'
theorem set_dict (hu : X.A.units + 1 < cLine) : PSet X rSetD := by
  intro pins s σ H o i v ov iv u Q I ro ri rv h
  obtain ⟨a, H', rfl, g, q⟩ := h
  obtain rfl : ov = Value.ref a := ro
  exact d_setItem hu I g ri rv fun s' I' => ⟨H', I', q⟩
def rSetU : V → V → V → Hp → (Hp → Prop) → Prop := fun o i v H Q => rSetL o i v H Q ∨ rSetD o i v H Q
theorem set_U (hu : X.A.units + 1 < cLine) : PSet X rSetU := PSet.or set_list (set_dict hu)
theorem attrBase_of {o : Expr} {a : Str} {env : Env} (h : (match o with | .Call (.Name _ _) [] [] _ => false | _ => true) = true) : attributeBase o a env (eval o env) = eval o env := by
  unfold attributeBase
  split
  · simp at h
  · rfl
/-- the tree of a method call on one line -/
theorem mtree {o : Expr} {m : Str} {apos pos : Pos} {args : List Expr} {env : Env} (hb : attributeBase o m env (eval o env) = eval o env)
    (hf : methodCallForm (args.length + ([] : List Keyword).length) (backTo pos (starEach args env)) (backToKw pos (keywordEach [] env)) = true) (hl : (apos.endLine == pos.line) = true) :
    eval (.Call (.Attribute o m apos) args [] pos) env = (do
      let ov ← eval o env
      standAt apos.atName
      let (f, first) ← holding [ov] (getMethod ov m (plainOf o env))
      callWith pos f first (backTo pos (starEach args env)) (backToKw pos (keywordEach [] env))) :=
  mcall_of hb fun _ => mcall_line hf hl
def rAbsV : List V → Hp → VK → Prop := fun xs H Q => ∃ i, xs = [.int i] ∧ Q (.int (if i < 0 then -i else i)) H
theorem call_absU : CallR X (.builtin "abs") rAbsV := call_abs
def rLenU (K : PySem.W.Frag) : List V → Hp → VK → Prop := fun xs H Q => (∃ p ys, xs = [.ref p] ∧ (SqL K H p ys ∨ SqT K H p ys) ∧ Q (.int ys.length) H) ∨ ∃ z, xs = [.str z] ∧ z.length ≤ sizeLine ∧ Q (.int z.length) H
theorem call_lenU : CallR X (.builtin "len") (rLenU X.K) := call_len_seq.or call_len_str
def rListOf (K : PySem.W.Frag) : List V → Hp → VK → Prop := fun xs H Q => ∃ p ys, xs = [.ref p] ∧ (SqL K H p ys ∨ SqT K H p ys) ∧ ∀ l, H l = none → Q (.ref l) (upd H l (.lst ys))
theorem call_listU : CallR X (.type "list") (rListOf X.K) := call_list_of
def rTupOf (K : PySem.W.Frag) : List V → Hp → VK → Prop := fun xs H Q => ∃ p ys, xs = [.ref p] ∧ ((SqL K H p ys ∧ ∀ l, H l = none → Q (.ref l) (upd H l (.tup ys))) ∨ (SqT K H p ys ∧ Q (.ref p) H))
theorem call_tupU : CallR X (.type "tuple") (rTupOf X.K) := call_tuple_of
def rIsiU (K : PySem.W.Frag) : List V → Hp → VK → Prop := fun xs H Q => rIsi K xs H Q ∨ rIsiT K xs H Q
theorem call_isiU : CallR X (.builtin "isinstance") (rIsiU X.K) := call_isi.or call_isiT
def tTrv (K : PySem.W.Frag) (ta : TE) : TT := fun σ H Q => ta σ H fun x H' => ∃ k, TruV K x H' k ∧ Q k H'
theorem pt_trv {a : Expr} {ta : TE} (ha : PE X a ta) (he : ∀ whole, isTrue a X.env whole = (do let v ← whole; standAt a.pos; holding [v] (truthy v)) := by intro _; rfl) : PT X a (tTrv X.K ta) := pt_truth ha he
theorem PI.or {tg e : Expr} {w1 w2 : TI} (h1 : PI X tg e w1) (h2 : PI X tg e w2) : PI X tg e (fun σ H R => w1 σ H R ∨ w2 σ H R) := by
  refine ⟨fun pins s σ H R I h => ?_⟩
  rcases h with h | h
  · exact h1.run pins s σ H R I h
  · exact h2.run pins s σ H R I h
def iSeq (K : PySem.W.Frag) (t : TE) : TI := fun σ H R => iList K t σ H R ∨ iTup K t σ H R
theorem pi_seq {tg e : Expr} {t : TE} (h : PE X e t) : PI X tg e (iSeq X.K t) := PI.or (pi_list h) (pi_tup h)
def rSlU (K : PySem.W.Frag) : V → Option Int → Option Int → Hp → VK → Prop := fun x lo hi H Q => rSlL K x lo hi H Q ∨ rSlT K x lo hi H Q
theorem sl_U : SlR X (rSlU X.K) := sl_list.or sl_tup
end
def Ex (H H' : Hp) : Prop := ∀ a o, H a = some o → H' a = some o
theorem Ex.refl (H : Hp) : Ex H H := fun _ _ h => h
theorem Ex.tr {H H1 H2 : Hp} (a : Ex H H1) (b : Ex H1 H2) : Ex H H2 := fun c o h => b c o (a c o h)
theorem Ex.to {H H' : Hp} {a : Addr} {o : HO} (e : Ex H H') (h : H a = some o) : H' a = some o := e a o h
theorem Ex.upd {H : Hp} {p : Addr} {o : HO} (h : H p = none) : Ex H (upd H p o) := fun a u e => by rw [upd_ne (ne_of_none e h)]; exact e
/-- all but l is kept -/
def Xb (l : Addr) (H H' : Hp) : Prop := ∀ a o, a ≠ l → H a = some o → H' a = some o
theorem Xb.to {H H' : Hp} {a l : Addr} {o : HO} (e : Xb l H H') (h : H a = some o) (n : a ≠ l) : H' a = some o := e a o n h
theorem Xb.refl (l : Addr) (H : Hp) : Xb l H H := fun _ _ _ h => h
theorem Xb.tr {l : Addr} {H H1 H2 : Hp} (a : Xb l H H1) (b : Xb l H1 H2) : Xb l H H2 := fun c o n h => b c o n (a c o n h)
theorem Xb.upd {H : Hp} {p : Addr} {o : HO} : Xb p H (upd H p o) := fun a u n e => by rw [upd_ne n]; exact e
theorem dI (a b : Int) : decide (V.int a = V.int b) = decide (a = b) := by
  rw [decide_eq_decide]
  exact ⟨V.int.inj, congrArg _⟩
theorem dS (a b : Str) : decide (V.str a = V.str b) = decide (a = b) := by
  rw [decide_eq_decide]
  exact ⟨V.str.inj, congrArg _⟩
section
variable {K : PySem.W.Frag} {σ σ' : L2.St} {H : Hp} {Q : VK} {ta tb tc te : TE} {i : Nat} {v x y : V} {D : Ends} {tz tu tw : TS} {tt tt2 : TT} {t : TA} {R : List V → Hp → Prop} {B : Bool → Hp → Prop}
def NF (K : PySem.W.Frag) (f : Str) (x : V) (H : Hp) (Q : VK) : Prop := ∃ a C dx fs v, x = .ref a ∧ H a = some (.ins C dx fs) ∧ Cls K C ∧ NoAttr K C f ∧ fs.lookup f = some v ∧ Q v H
end
end Rt
namespace Rt
open PySem PySem.Spec PyProof.Rows L2
def fdA (K : PySem.W.Frag) (p : Str × Option Str) : FuncData := match K.lookup (He.fAd K p) with
  | some ⟨_, _, .func fd, _⟩ => fd
  | _ => PySem.W.fnOf "" "" { posonlyargs := [], args := [], vararg := none, kwonlyargs := [], kw_defaults := [], kwarg := none, defaults := [] } [] { kind := .function, names := [], isGenerator := false, isCoroutine := false } .none .none .none .none none .none .none
theorem fdA_eq {K : PySem.W.Frag} {p : Str × Option Str} {x q : Str} {params : Arguments} {body : List Stmt} {scope : Scope} {dvs : List V} {kws : List (Str × V)} {fd : FuncData} (F : FunD K x q params body scope dvs kws (He.fAd K p) fd) : fd = fdA K p := by
  obtain ⟨oc, od, dV, kV, doc, pm, an, cdv, ct, osl, e, lk, _⟩ := F.ex
  unfold fdA
  rw [lk]
theorem FnOk.cx {P : Program} {w : World} {K : PySem.W.Frag} {mg : Str → Option Value} {base : Heap} {CX CX' : CXT} {k : Nat} {f : Addr} {fd : FuncData} {ps : List Str} {sp : Sp}
    (h : ∀ o H s E u s', CX o H s E u s' → CX' o H s E u s') (F : FnOk P w K mg base CX k f fd ps sp) : FnOk P w K mg base CX' k f fd ps sp := by
  refine ⟨F.len, fun A outer s H args us vs Q E hr e0 hb hv hs => ?_⟩
  refine codeAny_mono (F.run A outer s H args us vs Q E hr e0 hb hv hs) fun r s' q => ?_
  cases r with
  | error e => exact h _ _ _ _ _ _ q
  | ok fl => cases fl <;> exact q
theorem end_cx {P : Program} (H : Hp) (s : Shared) (e : Value) (s' : Shared) (z : ∃ w, L2.CX P w [] H s (fun _ _ _ => False) e s') : False := by
  obtain ⟨_, _, _, _, _, _, _, _, _, _, _, _, _, q⟩ := z
  exact q
end Rt
namespace Rt
open PySem PySem.Spec PyProof.Rows L2
end Rt
namespace Rt
open PySem PySem.Spec PyProof.Rows L2
section
variable {K : PySem.W.Frag} {σ : L2.St} {H : Hp} {Q : VK} {ta tb te : TE} {v x y : V} {t tk : TA} {Z : Bool → Prop}
/-- a new instance: its heap, by what is known of it -/
structure NewI (H : Hp) (C x dx : Addr) (H' : Hp) : Prop where
  nx : H x = none
  ndx : H dx = none
  ne : dx ≠ x
  ex : Ex H H'
  at_ : H' x = some (.ins C dx [])
end
end Rt
namespace Rt
open PySem PySem.Spec PyProof.Rows L2
section
variable {K : PySem.W.Frag} {a : Addr} {g : TG} {tb tz : TS} {D : Ends} {σ : L2.St} {H : Hp} {tl : TE} {wi : TI} {R : It → Hp → Prop}
end
theorem part_top {a b : Int} (hb : b ≠ 0) : a.fdiv (if b < 0 then 0 - ((Int.gcd a b : Nat) : Int) else ((Int.gcd a b : Nat) : Int)) = (Rat.divInt a b).num := by
  have hg : (0 : Int) < ((Int.gcd a b : Nat) : Int) := by
    have := Int.gcd_pos_of_ne_zero_right a hb
    omega
  obtain ⟨t, ht⟩ : ((Int.gcd a b : Nat) : Int) ∣ a := Int.gcd_dvd_left a b
  rw [Rat.num_divInt, Int.gcd_comm b a]
  generalize ((Int.gcd a b : Nat) : Int) = g at *
  subst ht
  by_cases h : b < 0
  · rw [if_pos h, Int.sign_eq_neg_one_of_neg h]
    have e1 : (g * t).fdiv (0 - g) = -t := by
      have : g * t = (0 - g) * (-t) := by
        rw [Int.zero_sub, Int.neg_mul_neg]
      rw [this, Int.mul_fdiv_cancel_left _ (by omega)]
    have e2 : (-1 * (g * t)) / g = -t := by
      have : (-1 * (g * t)) = g * (-t) := by
        rw [Int.mul_neg, Int.neg_mul, Int.one_mul]
      rw [this, Int.mul_ediv_cancel_left _ (by omega)]
    rw [e1, e2]
  · rw [if_neg h, Int.sign_eq_one_of_pos (by omega), Int.one_mul, Int.mul_fdiv_cancel_left _ (by omega), Int.mul_ediv_cancel_left _ (by omega)]
theorem part_bot {a b : Int} (hb : b ≠ 0) : b.fdiv (if b < 0 then 0 - ((Int.gcd a b : Nat) : Int) else ((Int.gcd a b : Nat) : Int)) = ((Rat.divInt a b).den : Int) := by
  have hg : (0 : Int) < ((Int.gcd a b : Nat) : Int) := by
    have := Int.gcd_pos_of_ne_zero_right a hb
    omega
  obtain ⟨t, ht⟩ : ((Int.gcd a b : Nat) : Int) ∣ b := Int.gcd_dvd_right a b
  rw [Rat.den_divInt, if_neg hb, Int.gcd_comm b a, Int.natCast_ediv]
  generalize ((Int.gcd a b : Nat) : Int) = g at *
  subst ht
  by_cases h : g * t < 0
  · rw [if_pos h]
    have e1 : (g * t).fdiv (0 - g) = -t := by
      have : g * t = (0 - g) * (-t) := by
        rw [Int.zero_sub, Int.neg_mul_neg]
      rw [this, Int.mul_fdiv_cancel_left _ (by omega)]
    have e2 : (((g * t).natAbs : Nat) : Int) / g = -t := by
      have : (((g * t).natAbs : Nat) : Int) = g * (-t) := by
        rw [Int.mul_neg]
        omega
      rw [this, Int.mul_ediv_cancel_left _ (by omega)]
    rw [e1, e2]
  · rw [if_neg h, Int.mul_fdiv_cancel_left _ (by omega)]
    have : (((g * t).natAbs : Nat) : Int) = g * t := by omega
    rw [this, Int.mul_ediv_cancel_left _ (by omega)]
/-- how long top and bottom are at most, in bits -/
def RSz (n : Nat) (q : Rat) : Prop := q.num.natAbs < 2 ^ n ∧ q.den < 2 ^ n
theorem rsz_divInt {n : Nat} {a b : Int} (ha : a.natAbs < 2 ^ n) (hb : b.natAbs < 2 ^ n) (h0 : b ≠ 0) : RSz n (Rat.divInt a b) := by
  constructor
  · rw [← part_top h0]
    refine Nat.lt_of_le_of_lt ?_ ha
    rw [part_top h0, Rat.num_divInt]
    have : (b.sign * a).natAbs ≤ a.natAbs := by
      rw [Int.natAbs_mul]
      have : b.sign.natAbs ≤ 1 := by
        rcases Int.lt_trichotomy b 0 with h | h | h
        · rw [Int.sign_eq_neg_one_of_neg h]; decide
        · subst h; decide
        · rw [Int.sign_eq_one_of_pos h]; decide
      calc b.sign.natAbs * a.natAbs ≤ 1 * a.natAbs := Nat.mul_le_mul_right _ this
        _ = a.natAbs := Nat.one_mul _
    refine Nat.le_trans (Int.natAbs_ediv_le_natAbs _ _) this
  · rw [Rat.den_divInt, if_neg h0]
    exact Nat.lt_of_le_of_lt (Nat.div_le_self _ _) hb
theorem den_pos (q : Rat) : (0 : Int) < (q.den : Int) := by
  have := q.den_pos
  omega
theorem den_ne (q : Rat) : (q.den : Int) ≠ 0 := by
  have := den_pos q
  omega
theorem gcd_lt {a b : Int} {n : Nat} (hb : b.natAbs < 2 ^ n) (h0 : b ≠ 0) : ((Int.gcd a b : Nat) : Int).natAbs < 2 ^ n := by
  refine Nat.lt_of_le_of_lt ?_ hb
  rw [Int.natAbs_natCast]
  exact Nat.le_of_dvd (Int.natAbs_pos.mpr h0) (Nat.gcd_dvd_right _ _)
theorem divZ {i j : Int} {b : Nat} (h : j ≠ 0) (hb : j.natAbs < 2 ^ b) (h0 : 0 < b) (h9 : b ≤ 9000) : CDivZ i j := ⟨h, Nat.lt_of_lt_of_le (PySem.Flt.log2_lt_of h0 hb) h9⟩
theorem mulW {a b : Int} {n m : Nat} (ha : a.natAbs < 2 ^ n) (hb : b.natAbs < 2 ^ m) (h : n + m ≤ 900000) : CMulW a b :=
  wide_mul (a := n + 1) (b := m + 1) (Nat.lt_of_lt_of_le ha (Nat.pow_le_pow_right (by decide) (Nat.le_succ _))) (Nat.lt_of_lt_of_le hb (Nat.pow_le_pow_right (by decide) (Nat.le_succ _))) (Nat.succ_pos _) (Nat.succ_pos _) (by omega)
theorem dsz {n : Nat} {q : Rat} (h : RSz n q) : ((q.den : Nat) : Int).natAbs < 2 ^ n := by
  rw [Int.natAbs_natCast]
  exact h.2
theorem pow_le {x n m : Nat} (h : x < 2 ^ n) (l : n ≤ m) : x < 2 ^ m := Nat.lt_of_lt_of_le h (Nat.pow_le_pow_right (by decide) l)
theorem add_eq (q r : Rat) : Rat.divInt (q.num * (r.den : Int) + r.num * (q.den : Int)) ((q.den : Int) * (r.den : Int)) = q + r := by
  rw [← Rat.divInt_add_divInt _ _ (den_ne q) (den_ne r), Rat.num_divInt_den, Rat.num_divInt_den]
section
variable {K : PySem.W.Frag} {σ : L2.St} {H : Hp} {Q : VK} {ta te tk tv to ti : TE} {v x y : V} {D : Ends} {tz : TS} {g : TG} {R : L2.St → Hp → Prop} {a p : Addr}
theorem valV_not {κ : Type} [DecidableEq κ] {k : κ} : ∀ {kvs : List (κ × V)}, k ∉ kvs.map (·.1) → valV kvs k = none
  | [], _ => rfl
  | p :: r, h => by
    rw [valV_neg (fun e => h (by rw [← e]; exact List.mem_cons_self))]
    exact valV_not fun z => h (List.mem_cons_of_mem _ z)
theorem merge_nodup : ∀ (kvs acc : List (Key × V)), ((acc ++ kvs).map (·.1)).Nodup → mergeK acc kvs = acc ++ kvs
  | [], acc, _ => (List.append_nil acc).symm
  | (k, v) :: r, acc, h => by
    have e : acc ++ (k, v) :: r = (acc ++ [(k, v)]) ++ r := by simp
    have hk : k ∉ acc.map (·.1) := by
      intro z
      rw [List.map_append, List.nodup_append] at h
      exact h.2.2 k z k List.mem_cons_self rfl
    show mergeK (putK acc k v) r = _
    rw [putK_new v (valV_not hk), e]
    exact merge_nodup r _ (by rw [← e]; exact h)
end
theorem sh_ints (cs : List Int) : SeqAt.shaped (.list (cs.map PyData.int)) = true := PySem.W.shaped_ints cs
theorem eqv_nil (cs : List Int) : PyData.eqv (.list (cs.map PyData.int)) (.list []) = cs.isEmpty := by
  cases cs <;> simp [PyData.eqv, PyData.eqvAll]
section
variable {K : PySem.W.Frag} {σ : L2.St} {H : Hp} {g : TG} {gs : TGs} {v : V} {r xs : List V} {R : L2.St → Hp → Prop} {p : Addr} {n : Nat}
end
end Rt
namespace Mi
/-- the defs of this law that make functions, and the names of what they make -/
def lamTf : List (He.Defn × PySem.Str) := []
end Mi
namespace Mi
open PySem PySem.Spec PyProof.Rows L2 Rt
inductive Bt where
  | non | bool | int | str | tuple | list | dict
  deriving DecidableEq
def Bt.name : Bt → String
  | .non => "NoneType" | .bool => "bool" | .int => "int" | .str => "str" | .tuple => "tuple" | .list => "list" | .dict => "dict"
def Bt.all : List Bt := [.non, .bool, .int, .str, .tuple, .list, .dict]
def isiChk (K : PySem.W.Frag) (cls : List Str) : Bool := cls.all fun c => (Bt.all.all fun b => decide (PySem.W.kitOne K (.type b.name) (.ref (He.ga K c)) = some false) && (decide (b = .non) || decide (PySem.W.kitOne K (.ref (He.ga K c)) (.type b.name) = some false))) &&
  cls.all fun e => decide (PySem.W.kitOne K (.ref (He.ga K c)) (.ref (He.ga K e)) = some (decide (c = e)))
def xclsB (K : PySem.W.Frag) (nw : String) (tl : List Value) (C : Addr) : Bool := PySem.W.excInitIn K C tl nw && (PySem.W.excOver K C tl && (PySem.W.hasDictIn K C && (decide (PySem.W.findIn K (.ref C) "__setattr__" = some (some (.builtin "object.__setattr__"))) &&
  (decide (PySem.W.subIn K (.ref C) (.type "BaseException") = some true) && (decide (PySem.W.typeIn K (.ref C) = some (.type "type")) && PySem.W.keepIn K (.ref C))))))
def xmB (K : PySem.W.Frag) (xs : List Str) : Bool := xs.all fun c => xs.all fun e => decide (PySem.W.exmOne K (.ref (He.ga K c)) (.ref (He.ga K e)) = some (decide (c = e)))
abbrev XT := List (Str × List String)
def xnames : List String := ["ValueError", "KeyError", "IndexError", "LookupError", "ArithmeticError", "RuntimeError", "TypeError", "OverflowError", "ZeroDivisionError", "NotImplementedError", "Exception"]
def xabove : XT → Str → List String
  | [], _ => []
  | p :: r, c => if p.1 = c then p.2 else xabove r c
def xmTB (K : PySem.W.Frag) (T : XT) : Bool := T.all fun p => (T.all fun q => decide (PySem.W.exmOne K (.ref (He.ga K p.1)) (.ref (He.ga K q.1)) = some (decide (p.1 = q.1)))) && xnames.all fun n => decide (PySem.W.exmOne K (.ref (He.ga K p.1)) (.type n) = some ((xabove T p.1).contains n))
def xcTB (K : PySem.W.Frag) (T : XT) : Bool := T.all fun p => decide (PySem.W.findIn K (.ref (He.ga K p.1)) "__getattribute__" = some (some (.builtin "BaseException.__getattribute__"))) && (decide (PySem.W.findIn K (.ref (He.ga K p.1)) "__getattr__" = some none) &&
  (decide (PySem.W.subIn K (.ref (He.ga K p.1)) (.type "BaseException") = some true) && (PySem.W.hasDictIn K (He.ga K p.1) && (decide (PySem.W.findIn K (.ref (He.ga K p.1)) "__class__" = some (some (.builtin "object.__class__"))) &&
  (decide (PySem.W.specialIn K (.builtin "object.__class__") "__get__" = some (some (.builtin "getset_descriptor.__get__"))) && (decide (PySem.W.takesIn K (.builtin "object.__class__") = some true) && decide (PySem.W.mroIn K (He.ga K p.1) (.type "object") = some true)))))))
abbrev XF := List (Str × Str)
def xfTB (K : PySem.W.Frag) (T : XF) : Bool := T.all fun p => xfB K (He.ga K p.1) && decide (PySem.W.findIn K (.ref (He.ga K p.1)) p.2 = some none)
abbrev tl_Key : List Value := [.type "KeyError", .type "LookupError", .type "Exception", .type "BaseException", .type "object"]
end Mi
namespace Lw
open PySem PySem.Spec PyProof.Rows L2 Rt Mi
def top (i : Nat) : Stmt := PySem.Challenge.pw_rideturns_k37_bounds_of_rounds.main.body.getD i (.Pass ⟨0, 0, 0, 0⟩)
abbrev s_law_held : Stmt := top 27
abbrev N_law_held : List Str := ["_law_script"]
theorem sc_law_held : FnScope N_law_held ["_law_script"] (defScope s_law_held) := ⟨rfl, rfl, rfl, by decide +kernel, rfl, by decide +kernel, by decide +kernel⟩
abbrev s_law_draw : Stmt := top 28
abbrev N_law_draw : List Str := ["_law_held_here", "_law_many", "_law_found", "_law_at", "_law_cell", "_law_number"]
theorem sc_law_draw : FnScope N_law_draw ["_law_held_here", "_law_many"] (defScope s_law_draw) := ⟨rfl, rfl, rfl, by decide +kernel, rfl, by decide +kernel, by decide +kernel⟩
abbrev s_law_names : Stmt := top 29
abbrev N_law_names : List Str := ["_law_held_here", "_law_many", "_law_letters", "_law_size", "_law_base", "_law_at", "_law_begin", "_law_step", "_law_lot", "_law_found", "_law_k", "_law_tail"]
theorem sc_law_names : FnScope N_law_names ["_law_held_here", "_law_many"] (defScope s_law_names) := ⟨rfl, rfl, rfl, by decide +kernel, rfl, by decide +kernel, by decide +kernel⟩
abbrev s_NoName_init : Stmt := inClass (top 10) 0
abbrev N_NoName_init : List Str := ["self", "name"]
theorem sc_NoName_init : FnScope N_NoName_init ["self", "name"] (defScope s_NoName_init) := ⟨rfl, rfl, rfl, by decide +kernel, rfl, by decide +kernel, by decide +kernel⟩
abbrev s_place_in : Stmt := top 23
abbrev N_place_in : List Str := ["order", "name"]
theorem sc_place_in : FnScope N_place_in ["order", "name"] (defScope s_place_in) := ⟨rfl, rfl, rfl, by decide +kernel, rfl, by decide +kernel, by decide +kernel⟩
abbrev s_is_whole : Stmt := top 19
abbrev N_is_whole : List Str := ["thing"]
theorem sc_is_whole : FnScope N_is_whole ["thing"] (defScope s_is_whole) := ⟨rfl, rfl, rfl, by decide +kernel, rfl, by decide +kernel, by decide +kernel⟩
abbrev s_divisor : Stmt := top 20
abbrev N_divisor : List Str := ["one", "other"]
theorem sc_divisor : FnScope N_divisor ["one", "other"] (defScope s_divisor) := ⟨rfl, rfl, rfl, by decide +kernel, rfl, by decide +kernel, by decide +kernel⟩
abbrev s_Share_init : Stmt := inClass (top 21) 0
abbrev N_Share_init : List Str := ["self", "top", "bottom", "thing", "part"]
theorem sc_Share_init : FnScope N_Share_init ["self", "top", "bottom"] (defScope s_Share_init) := ⟨rfl, rfl, rfl, by decide +kernel, rfl, by decide +kernel, by decide +kernel⟩
abbrev s_ways : Stmt := top 24
abbrev N_ways : List Str := ["many", "some", "found", "k"]
theorem sc_ways : FnScope N_ways ["many", "some"] (defScope s_ways) := ⟨rfl, rfl, rfl, by decide +kernel, rfl, by decide +kernel, by decide +kernel⟩
abbrev s_Share_plus : Stmt := inClass (top 21) 4
abbrev N_Share_plus : List Str := ["self", "other"]
theorem sc_Share_plus : FnScope N_Share_plus ["self", "other"] (defScope s_Share_plus) := ⟨rfl, rfl, rfl, by decide +kernel, rfl, by decide +kernel, by decide +kernel⟩
abbrev s_round_bound : Stmt := top 25
abbrev N_round_bound : List Str := ["order", "name", "at", "behind", "owed", "owes", "some", "others", "sets"]
theorem sc_round_bound : FnScope N_round_bound ["order", "name"] (defScope s_round_bound) := ⟨rfl, rfl, rfl, by decide +kernel, rfl, by decide +kernel, by decide +kernel⟩
abbrev s_law_pair : Stmt := top 32
abbrev N_law_pair : List Str := ["_law_share", "_law_part"]
theorem sc_law_pair : FnScope N_law_pair ["_law_share"] (defScope s_law_pair) := ⟨rfl, rfl, rfl, by decide +kernel, rfl, by decide +kernel, by decide +kernel⟩
abbrev s_law_sets : Stmt := top 35
abbrev N_law_sets : List Str := ["_law_order", "_law_name", "_law_found", "_law_other", "_law_some"]
theorem sc_law_sets : FnScope N_law_sets ["_law_order", "_law_name"] (defScope s_law_sets) := ⟨rfl, rfl, rfl, by decide +kernel, rfl, by decide +kernel, by decide +kernel⟩
abbrev s_law_low : Stmt := top 30
abbrev N_law_low : List Str := ["_law_top", "_law_bottom", "_law_one", "_law_other"]
theorem sc_law_low : FnScope N_law_low ["_law_top", "_law_bottom"] (defScope s_law_low) := ⟨rfl, rfl, rfl, by decide +kernel, rfl, by decide +kernel, by decide +kernel⟩
abbrev s_law_add : Stmt := top 31
abbrev N_law_add : List Str := ["_law_one", "_law_other"]
theorem sc_law_add : FnScope N_law_add ["_law_one", "_law_other"] (defScope s_law_add) := ⟨rfl, rfl, rfl, by decide +kernel, rfl, by decide +kernel, by decide +kernel⟩
abbrev s_law_round_bound : Stmt := top 36
abbrev N_law_round_bound : List Str := ["_law_order", "_law_name", "_law_up", "_law_down", "_law_some", "_law_ahead"]
theorem sc_law_round_bound : FnScope N_law_round_bound ["_law_order", "_law_name"] (defScope s_law_round_bound) := ⟨rfl, rfl, rfl, by decide +kernel, rfl, by decide +kernel, by decide +kernel⟩
abbrev s_law_kinds : Stmt := top 33
abbrev N_law_kinds : List Str := ["_law_error", "_law_own", "_law_words", "_law_found", "_law_bases_here", "_law_word", "_law_so"]
theorem sc_law_kinds : FnScope N_law_kinds ["_law_error"] (defScope s_law_kinds) := ⟨rfl, rfl, rfl, by decide +kernel, rfl, by decide +kernel, by decide +kernel⟩
abbrev s_law_bases : Stmt := top 34
abbrev N_law_bases : List Str := ["_law_word", "_law_places", "_law_k"]
theorem sc_law_bases : FnScope N_law_bases ["_law_word"] (defScope s_law_bases) := ⟨rfl, rfl, rfl, by decide +kernel, rfl, by decide +kernel, by decide +kernel⟩
abbrev s_law_refused : Stmt := top 37
abbrev N_law_refused : List Str := ["_law_order", "_law_name", "_law_caught", "e", "_law_found", "_law_bases_here"]
theorem sc_law_refused : FnScope N_law_refused ["_law_order", "_law_name"] (defScope s_law_refused) := ⟨rfl, rfl, rfl, by decide +kernel, rfl, by decide +kernel, by decide +kernel⟩
abbrev s_law : Stmt := top 38
abbrev N_law : List Str := ["_law_script", "_law_held_here", "_law_names_here", "_law_turn", "_law_order", "_law_name", "_law_found", "_law_odd", "_law_share"]
theorem sc_law : FnScope N_law ["_law_script"] (defScope s_law) := ⟨rfl, rfl, rfl, by decide +kernel, rfl, by decide +kernel, by decide +kernel⟩
def xtab : XT := [("NoKind", ["TypeError", "Exception"]), ("Nought", ["ZeroDivisionError", "ArithmeticError", "Exception"]), ("NoShare", ["ArithmeticError", "Exception"]), ("Uneven", ["ArithmeticError", "Exception"]), ("BadName", ["ValueError", "Exception"]), ("NoNumber", ["ValueError", "Exception"]), ("NoRide", ["ValueError", "Exception"]), ("NoText", ["ValueError", "Exception"]), ("NoName", ["KeyError", "LookupError", "Exception"]), ("NoDay", ["LookupError", "Exception"]), ("NoSeats", ["IndexError", "LookupError", "Exception"]), ("TooMany", ["OverflowError", "ArithmeticError", "Exception"]), ("Taken", ["RuntimeError", "Exception"]), ("NoRule", ["NotImplementedError", "RuntimeError", "Exception"]), ("NothingDone", ["Exception"]), ("NoRow", ["Exception"])]
def xfl : XF := [("NoKind", "thing"), ("Nought", "top"), ("NoShare", "text"), ("Uneven", "rest"), ("BadName", "name"), ("NoNumber", "thing"), ("NoRide", "reason"), ("NoText", "row"), ("NoName", "name"), ("NoDay", "day"), ("NoSeats", "lack"), ("TooMany", "most"), ("Taken", "name"), ("NoRule", "thing"), ("NothingDone", "text"), ("NoRow", "text")]
def xcs : List Str := ["NoName"]
def cls : List Str := ["Share"]
def fa : List He.Fa := [.free "list", .glo "_law_held", .free "len", .glo "_law_draw", .free "range", .glo "_law_names", .free "tuple", .free "KeyError", .glo "NoName", .glo "place_in", .free "int", .free "isinstance", .free "bool", .glo "is_whole", .free "abs", .glo "divisor", .cls "Share", .noat "Share" "top", .glo "Share", .noat "Share" "bottom", .mkr "Share", .glo "ways", .meth "Share" "plus", .glo "round_bound", .glo "_law_pair", .glo "_law_sets", .glo "_law_low", .glo "_law_add", .glo "_law_round_bound", .glo "NoKind", .glo "Nought", .glo "NoShare", .glo "Uneven", .glo "BadName", .glo "NoNumber", .glo "NoRide", .glo "NoText", .glo "NoDay", .glo "NoSeats", .glo "TooMany", .glo "Taken", .glo "NoRule", .glo "NothingDone", .glo "NoRow", .free "zip", .free "TypeError", .free "ZeroDivisionError", .free "ArithmeticError", .free "ValueError", .free "LookupError", .free "IndexError", .free "OverflowError", .free "RuntimeError", .free "NotImplementedError", .glo "_law_kinds", .glo "_law_bases", .glo "_law_refused", .free "repr", .glo "law"]
def d_law_held : He.DefD := ⟨("_law_held", none), "_law_held", "_law_held", defArgs s_law_held, defBody s_law_held, defScope s_law_held, [], []⟩
def d_law_draw : He.DefD := ⟨("_law_draw", none), "_law_draw", "_law_draw", defArgs s_law_draw, defBody s_law_draw, defScope s_law_draw, [], []⟩
def d_law_names : He.DefD := ⟨("_law_names", none), "_law_names", "_law_names", defArgs s_law_names, defBody s_law_names, defScope s_law_names, [], []⟩
def d_NoName_init : He.DefD := ⟨("NoName", some "__init__"), "__init__", "NoName.__init__", defArgs s_NoName_init, defBody s_NoName_init, defScope s_NoName_init, [], []⟩
def d_place_in : He.DefD := ⟨("place_in", none), "place_in", "place_in", defArgs s_place_in, defBody s_place_in, defScope s_place_in, [], []⟩
def d_is_whole : He.DefD := ⟨("is_whole", none), "is_whole", "is_whole", defArgs s_is_whole, defBody s_is_whole, defScope s_is_whole, [], []⟩
def d_divisor : He.DefD := ⟨("divisor", none), "divisor", "divisor", defArgs s_divisor, defBody s_divisor, defScope s_divisor, [], []⟩
def d_Share_init : He.DefD := ⟨("Share", some "__init__"), "__init__", "Share.__init__", defArgs s_Share_init, defBody s_Share_init, defScope s_Share_init, [.int 1], []⟩
def d_ways : He.DefD := ⟨("ways", none), "ways", "ways", defArgs s_ways, defBody s_ways, defScope s_ways, [], []⟩
def d_Share_plus : He.DefD := ⟨("Share", some "plus"), "plus", "Share.plus", defArgs s_Share_plus, defBody s_Share_plus, defScope s_Share_plus, [], []⟩
def d_round_bound : He.DefD := ⟨("round_bound", none), "round_bound", "round_bound", defArgs s_round_bound, defBody s_round_bound, defScope s_round_bound, [], []⟩
def d_law_pair : He.DefD := ⟨("_law_pair", none), "_law_pair", "_law_pair", defArgs s_law_pair, defBody s_law_pair, defScope s_law_pair, [], []⟩
def d_law_sets : He.DefD := ⟨("_law_sets", none), "_law_sets", "_law_sets", defArgs s_law_sets, defBody s_law_sets, defScope s_law_sets, [], []⟩
def d_law_low : He.DefD := ⟨("_law_low", none), "_law_low", "_law_low", defArgs s_law_low, defBody s_law_low, defScope s_law_low, [], []⟩
def d_law_add : He.DefD := ⟨("_law_add", none), "_law_add", "_law_add", defArgs s_law_add, defBody s_law_add, defScope s_law_add, [], []⟩
def d_law_round_bound : He.DefD := ⟨("_law_round_bound", none), "_law_round_bound", "_law_round_bound", defArgs s_law_round_bound, defBody s_law_round_bound, defScope s_law_round_bound, [], []⟩
def d_law_kinds : He.DefD := ⟨("_law_kinds", none), "_law_kinds", "_law_kinds", defArgs s_law_kinds, defBody s_law_kinds, defScope s_law_kinds, [], []⟩
def d_law_bases : He.DefD := ⟨("_law_bases", none), "_law_bases", "_law_bases", defArgs s_law_bases, defBody s_law_bases, defScope s_law_bases, [], []⟩
def d_law_refused : He.DefD := ⟨("_law_refused", none), "_law_refused", "_law_refused", defArgs s_law_refused, defBody s_law_refused, defScope s_law_refused, [], []⟩
def d_law : He.DefD := ⟨("law", none), "law", "law", defArgs s_law, defBody s_law, defScope s_law, [], []⟩
def fn : List He.DefD := [d_law_held, d_law_draw, d_law_names, d_NoName_init, d_place_in, d_is_whole, d_divisor, d_Share_init, d_ways, d_Share_plus, d_round_bound, d_law_pair, d_law_sets, d_law_low, d_law_add, d_law_round_bound, d_law_kinds, d_law_bases, d_law_refused, d_law]
def exs : List (PySem.W.Frag → Bool) := [fun K => decide (PySem.W.findIn K (.ref (He.ga K "Share")) "__class__" = some (some (.builtin "object.__class__"))),
  fun K => decide (PySem.W.mroIn K (He.ga K "Share") (.type "object") = some true),
  fun K => decide (PySem.W.specialIn K (.builtin "object.__class__") "__get__" = some (some (.builtin "getset_descriptor.__get__"))),
  fun K => decide (PySem.W.takesIn K (.builtin "object.__class__") = some true),
  fun K => isiChk K cls,
  fun K => xclsB K "LookupError.__new__" tl_Key (He.ga K "NoName"),
  fun K => decide (PySem.W.takerIn K (He.ga K "NoName") "name" = some none),
  fun K => decide (PySem.W.findIn K (.ref (He.ga K "NoName")) "__init__" = some (some (.ref (He.fAd K ("NoName", some "__init__"))))),
  fun K => decide (PySem.W.typeIn K (.ref (He.fAd K ("NoName", some "__init__"))) = some (.type "function")),
  fun K => xfB K (He.ga K "NoName"),
  fun K => decide (PySem.W.findIn K (.ref (He.ga K "NoName")) "name" = some none),
  fun K => xmB K xcs,
  fun K => decide ((Mi.lamTf.map fun d => (He.cT K d.1).2).Nodup),
  fun K => xmTB K xtab,
  fun K => xcTB K xtab,
  fun K => xfTB K xfl]
def ex (K : PySem.W.Frag) : Bool := exs.all fun b => b K
end Lw
namespace Lw
open PySem PySem.Spec PyProof.Rows L2 Rt Mi
def loose0 : List Str := ["_wall", "NoKind", "Nought", "NoShare", "Uneven", "BadName", "NoNumber", "NoRide", "NoText", "NoName", "NoDay", "NoSeats"]
def loose1 : List Str := ["TooMany", "Taken", "NoRule", "NothingDone", "NoRow", "is_whole", "divisor", "Share", "place_in", "ways", "round_bound", "_law_held"]
def loose2 : List Str := ["_law_draw", "_law_names", "_law_low", "_law_add", "_law_pair", "_law_kinds", "_law_bases", "_law_sets", "_law_round_bound", "_law_refused"]
def loose : List Str := loose0 ++ loose1 ++ loose2
abbrev R : PySem.W.OpenRow := PySem.W.OpenLaw.row PySem.Challenge.rw_rideturns_k37_bounds_of_rounds
abbrev hk : PySem.W.Hook := He.hookX 5 fa fn [] (Mi.lamTf.map (·.1)) ex
def ob (s : PySem.W.SharedT) : He.AlX := He.obsX 5 fa fn [] (Mi.lamTf.map (·.1)) ex (HandSHeadRun.getT s)
theorem ob_eq (s : PySem.W.SharedT) : ob s = hk.obs s.abs := He.obsX_eq (HandSHeadRun.getT_eq s)
set_option maxHeartbeats 0 in
theorem run (w : World) : HandSHeadRun.RunEq R (PySem.W.view R.prog [38]) hk ob 20000 loose w := by
  intro os
  kernel_rfl
end Lw
namespace Mi
open PySem PySem.Spec PyProof.Rows L2 Rt
/-- a value through and through -/
inductive D where
  | non | bl (b : Bool) | int (i : Int) | str (x : Str) | ty (n : String) | obj (x : Str)
  | tup (xs : List D) | tpx (xs : List D) | tpk (xs : List D) | lst (xs : List D) | dk (kvs : List (Key × D)) | dt (kvs : List (List Key × D)) | ins (c : Str) (fs : List (Str × D)) | scr (xs : List Int)
  | err (c : Str) (fs : List (Str × D)) | fnv (f c : Addr) (q : Str) (vs : List V) (ds : List D)
inductive Kd where
  | tup | tpx | tpk | lst | scr | dk (ks : List Key) | dt (ks : List (List Key)) | ins (C : Addr) (ns : List Str) | err (C : Addr) (ns : List Str) | fnv (f c : Addr) (q : Str) (vs : List V)
def oview : HO → Option (Kd × List V)
  | .tup xs => some (.tup, xs)
  | .lst xs => some (.lst, xs)
  | .dK kvs => some (.dk (kvs.map (·.1)), kvs.map (·.2))
  | .dT kvs => some (.dt (kvs.map (·.1)), kvs.map (·.2))
  | .ins C _ fs => some (.ins C (fs.map (·.1)), fs.map (·.2))
  | .frz _ (.lst xs) => some (.scr, xs)
  | _ => none
def dview (K : PySem.W.Frag) : D → Option (Kd × List D)
  | .tup xs => some (.tup, xs)
  | .tpx xs => some (.tpx, xs)
  | .tpk xs => some (.tpk, xs)
  | .lst xs => some (.lst, xs)
  | .dk kvs => some (.dk (kvs.map (·.1)), kvs.map (·.2))
  | .dt kvs => some (.dt (kvs.map (·.1)), kvs.map (·.2))
  | .ins c fs => some (.ins (He.ga K c) (fs.map (·.1)), fs.map (·.2))
  | .scr xs => some (.scr, xs.map .int)
  | .err c fs => some (.err (He.ga K c) (fs.map (·.1)), fs.map (·.2))
  | .fnv f c q vs ds => some (.fnv f c q vs, ds)
  | _ => none
/-- what needs no heap -/
inductive Leaf (K : PySem.W.Frag) : V → D → Prop
  | non : Leaf K .non .non
  | bl (b : Bool) : Leaf K (.bl b) (.bl b)
  | int (i : Int) : Leaf K (.int i) (.int i)
  | str (x : Str) : Leaf K (.str x) (.str x)
  | ty (n : String) : Leaf K (.ty n) (.ty n)
  | obj (x : Str) : Leaf K (.ref (He.ga K x)) (.obj x)
/-- an error that was caught, of the class cls, its dict d -/
def ErrO (a : Addr) (cls : Value) (d : Addr) : HO := .ext fun h => ∃ (oe : Obj) (vs : Array Value), h.get? a = some oe ∧ Zc cls (some d) oe ∧ oe.data = .fields vs
/-- a tuple that the run made, known to have no dict (.tpx tells it, .tup may be such a one); .tpk: one that the run made, known as HO.tup -/
def TupX (Z : Hp) (a : Addr) (vs : List V) : Prop := ∃ b, Z a = some (.frz b (.tup vs)) ∧ b.dict = none
/-- it stands in the written part; an error; a function that a lambda made -/
def SqW (K : PySem.W.Frag) (Z : Hp) (k : Kd) (a : Addr) (vs : List V) : Prop := match k with
  | .tup => SqT K (fun _ => none) a vs ∨ TupX Z a vs
  | .tpx => TupX Z a vs
  | .tpk => Z a = some (.tup vs)
  | .scr => SqL K (fun _ => none) a vs
  | .err C ns => ∃ (dx : Addr) (fs : List (Str × V)), Z a = some (ErrO a (.ref C) dx) ∧ Z dx = some (.xd fs) ∧ fs.map (·.1) = ns ∧ fs.map (·.2) = vs
  | .fnv f c q ws => a = f ∧ Z c = some (LamX.CodeO c q) ∧ vs = ws
  | _ => False
mutual
/-- what is never changed any more: it stands in Z, or in the written part -/
inductive FRep (K : PySem.W.Frag) (Z : Hp) : V → D → Prop
  | leaf {v d} : Leaf K v d → FRep K Z v d
  | node {a o k vs ds d} : Z a = some o → oview o = some (k, vs) → dview K d = some (k, ds) → FReps K Z vs ds → FRep K Z (.ref a) d
  | wr {a k vs ds d} : SqW K Z k a vs → dview K d = some (k, ds) → FReps K Z vs ds → FRep K Z (.ref a) d
inductive FReps (K : PySem.W.Frag) (Z : Hp) : List V → List D → Prop
  | nil : FReps K Z [] []
  | cons {v d vs ds} : FRep K Z v d → FReps K Z vs ds → FReps K Z (v :: vs) (d :: ds)
end
def Le (Z Z' : Hp) : Prop := ∀ a o, Z a = some o → Z' a = some o
theorem Le.refl (Z : Hp) : Le Z Z := fun _ _ h => h
theorem Le.tr {Z Z1 Z2 : Hp} (a : Le Z Z1) (b : Le Z1 Z2) : Le Z Z2 := fun c o h => b c o (a c o h)
def lockable : HO → Prop
  | .dK _ => True
  | .dT _ => True
  | _ => False
def isTbl : HO → Prop
  | .tbl _ => True
  | _ => False
/-- tables, code objects, functions -/
def isCd : HO → Prop
  | .tbl _ => True
  | .ext _ => True
  | _ => False
/-- the table at P: each code object that it tells is frozen, and bears the name q -/
def TabZ (Z H : Hp) (P : Addr) (q : Str) : Prop := ∃ ps : Array Value, H P = some (.tbl ps) ∧ TriplesOk ps.toList ∧ ∀ (pos : Pos) (cv : Value), codeAmong pos ps.toList = some cv → ∃ c, cv = .ref c ∧ Z c = some (LamX.CodeO c q)
theorem tabZ_keep {Z Z' H H' : Hp} {P : Addr} {q : Str} (t : TabZ Z H P q) (l : ∀ c o, Z c = some o → isCd o → Z' c = some o) (e : ∀ ps, H P = some (.tbl ps) → H' P = some (.tbl ps)) : TabZ Z' H' P q := by
  obtain ⟨ps, h1, h2, h3⟩ := t
  refine ⟨ps, e _ h1, h2, fun pos cv hc => ?_⟩
  obtain ⟨c, e1, e2⟩ := h3 pos cv hc
  exact ⟨c, e1, l _ _ e2 trivial⟩
theorem tabZ_mono {Z Z' H : Hp} {P : Addr} {q : Str} (t : TabZ Z H P q) (l : Le Z Z') : TabZ Z' H P q := tabZ_keep t (fun c o e _ => l c o e) fun _ e => e
theorem tabS_upd {Z H : Hp} {P a : Addr} {q : Str} {o : HO} (t : TabZ Z H P q) (h : ∀ o0, H a = some o0 → ¬ isCd o0) : TabZ Z (upd H a o) P q := tabZ_keep t (fun _ _ e _ => e) fun ps e => by
  by_cases z : P = a
  · subst z; exact absurd trivial (h _ e)
  · rw [upd_ne z]; exact e
theorem tabS_new {Z H : Hp} {P a : Addr} {q : Str} {o : HO} (t : TabZ Z H P q) (h : H a = none) : TabZ Z (upd H a o) P q := tabS_upd t fun o0 e => by rw [h] at e; cases e
theorem TabZ.nil {Z H : Hp} {P : Addr} {q : Str} (h : H P = some (.tbl #[])) : TabZ Z H P q := ⟨#[], h, True.intro, fun pos cv hc => by
  have z : codeAmong pos [] = some cv := hc
  simp [codeAmong] at z⟩
/-- the name that the mark of a table of code objects tells -/
def nmOf (m : Array Value) : Str := match m[0]? with
  | some (Value.str q _) => q
  | _ => Str.empty
/-- what is frozen stands in H, perhaps locked; a table of code objects tells such of its name alone -/
structure Sub (Z H : Hp) : Prop where
  fz : ∀ a o, Z a = some o → ¬ isTbl o → H a = some o ∨ (lockable o ∧ ∃ b, H a = some (.frz b o))
  tb : ∀ a m, Z a = some (.tbl m) → TabZ Z H a (nmOf m)
theorem Sub.rd {Z H : Hp} (s : Sub Z H) {a : Addr} {o : HO} (h : Z a = some o) (n : ¬ isTbl o := by intro z; exact z) : Rd H a o := (s.fz a o h n).imp id fun z => z.2
theorem Sub.ins {Z H : Hp} (s : Sub Z H) {a C dx : Addr} {fs : List (Str × V)} (h : Z a = some (.ins C dx fs)) : H a = some (.ins C dx fs) := by
  rcases s.fz _ _ h id with z | ⟨z, _⟩
  · exact z
  · exact z.elim
theorem Sub.some {Z H : Hp} (s : Sub Z H) {a : Addr} {o : HO} (h : Z a = Option.some o) : ∃ u, H a = Option.some u := by
  by_cases n : isTbl o
  · cases o <;> first | exact (show False from n).elim | skip
    obtain ⟨ps, z, _⟩ := s.tb _ _ h
    exact ⟨_, z⟩
  · rcases s.fz _ _ h n with z | ⟨_, b, z⟩ <;> exact ⟨_, z⟩
theorem oview_nc {o : HO} {x : Kd × List V} (h : oview o = Option.some x) : ¬ isCd o := fun n => by
  cases o <;> first | exact (show False from n).elim | cases h
theorem lock_nc {o : HO} (h : lockable o) : ¬ isCd o := fun n => by
  cases o <;> first | exact (show False from n).elim | exact (show False from h).elim
theorem lock_nt {o : HO} (h : lockable o) : ¬ isTbl o := fun n => by
  cases o <;> first | exact (show False from n).elim | exact (show False from h).elim
theorem oview_nt {o : HO} {x : Kd × List V} (h : oview o = Option.some x) : ¬ isTbl o := fun n => by
  cases o <;> first | exact (show False from n).elim | cases h
/-- a def that makes functions (lamTf, of the law): its table, the name of what it makes -/
def TabOf (K : PySem.W.Frag) (P : Addr) (q : Str) : Prop := ∃ p ∈ lamTf, P = (He.cT K p.1).2 ∧ q = p.2
/-- the tables of such defs are marked in Z -/
def TabMk (K : PySem.W.Frag) (Z : Hp) : Prop := ∀ P q, TabOf K P q → ∃ m, Z P = some (.tbl m) ∧ nmOf m = q
theorem TabMk.mono {K : PySem.W.Frag} {Z Z' : Hp} (t : TabMk K Z) (l : Le Z Z') : TabMk K Z' := fun P q h => let ⟨m, e, n⟩ := t P q h; ⟨m, l _ _ e, n⟩
structure SubM (K : PySem.W.Frag) (Z H : Hp) : Prop extends Sub Z H where
  tm : TabMk K Z
instance {K : PySem.W.Frag} {Z H : Hp} : CoeOut (SubM K Z H) (Sub Z H) := ⟨SubM.toSub⟩
section
variable {K : PySem.W.Frag} {Z Z' H H' : Hp}
theorem TupX.mono (e : Le Z Z') {a : Addr} {vs : List V} (h : TupX Z a vs) : TupX Z' a vs := let ⟨b, h1, h2⟩ := h; ⟨b, e _ _ h1, h2⟩
theorem SqW.mono (e : Le Z Z') {k : Kd} {a : Addr} {vs : List V} (h : SqW K Z k a vs) : SqW K Z' k a vs := by
  cases k with
  | tup => exact h.imp id (TupX.mono e)
  | tpx => exact TupX.mono e h
  | tpk => exact e _ _ h
  | scr => exact h
  | err C ns =>
    obtain ⟨dx, fs, h1, h2, h3, h4⟩ := h
    exact ⟨dx, fs, e _ _ h1, e _ _ h2, h3, h4⟩
  | fnv f c q ws => exact ⟨h.1, e _ _ h.2.1, h.2.2⟩
  | _ => exact h.elim
mutual
theorem FRep.mono (e : Le Z Z') : ∀ {v d}, FRep K Z v d → FRep K Z' v d
  | _, _, .leaf h => .leaf h
  | _, _, .node h1 h2 h3 h4 => .node (e _ _ h1) h2 h3 (FReps.mono e h4)
  | _, _, .wr h1 h3 h4 => .wr (h1.mono e) h3 (FReps.mono e h4)
theorem FReps.mono (e : Le Z Z') : ∀ {vs ds}, FReps K Z vs ds → FReps K Z' vs ds
  | _, _, .nil => .nil
  | _, _, .cons h t => .cons (FRep.mono e h) (FReps.mono e t)
end
/-- what is owned: nothing of it (fz), it itself (o1), it itself and its parts by their places (nd) -/
inductive Tg where
  | fz | o1 | nd (c : Nat → Tg)
abbrev Tg.u (c : Tg) : Tg := .nd fun _ => c
def Tg.ch : Tg → Nat → Tg
  | .nd c, i => c i
  | _, _ => .fz
def RepL (P : Nat → V → D → List Addr → Prop) : Nat → List V → List D → List Addr → Prop
  | _, [], [], fp => fp = []
  | i, v :: vs, d :: ds, fp => ∃ f1 f2, P i v d f1 ∧ RepL P (i + 1) vs ds f2 ∧ fp = f1 ++ f2
  | _, _, _, _ => False
def Rep (K : PySem.W.Frag) (Z H : Hp) : Tg → V → D → List Addr → Prop
  | .fz, v, d, fp => FRep K Z v d ∧ fp = []
  | .o1, v, d, fp => (Leaf K v d ∧ fp = []) ∨ ∃ a o k vs ds, v = .ref a ∧ H a = some o ∧ oview o = some (k, vs) ∧ dview K d = some (k, ds) ∧ FReps K Z vs ds ∧ fp = [a]
  | .nd c, v, d, fp => (Leaf K v d ∧ fp = []) ∨ ∃ a o k vs ds f, v = .ref a ∧ H a = some o ∧ oview o = some (k, vs) ∧ dview K d = some (k, ds) ∧ RepL (fun i => Rep K Z H (c i)) 0 vs ds f ∧ fp = a :: f
theorem RepL.imp {P P' : Nat → V → D → List Addr → Prop} : ∀ {vs ds fp i}, (∀ i v d f, (∀ a ∈ f, a ∈ fp) → P i v d f → P' i v d f) → RepL P i vs ds fp → RepL P' i vs ds fp
  | [], [], _, _, _, h => h
  | v :: vs, d :: ds, fp, i, e, ⟨f1, f2, h1, h2, h3⟩ =>
    ⟨f1, f2, e i v d f1 (fun a m => by rw [h3]; exact List.mem_append_left _ m) h1, RepL.imp (fun i v d f m => e i v d f fun a z => by rw [h3]; exact List.mem_append_right _ (m a z)) h2, h3⟩
  | [], _ :: _, _, _, _, h => h.elim
  | _ :: _, [], _, _, _, h => h.elim
theorem Rep.frame (ez : Le Z Z') : ∀ {t v d fp}, (∀ a ∈ fp, ∀ o, H a = some o → H' a = some o) → Rep K Z H t v d fp → Rep K Z' H' t v d fp
  | .fz, _, _, _, _, ⟨h, e⟩ => ⟨h.mono ez, e⟩
  | .o1, v, d, fp, e, h => by
    rcases h with h | ⟨a, o, k, vs, ds, h1, h2, h3, h4, h5, h6⟩
    · exact .inl h
    · subst h6
      exact .inr ⟨a, o, k, vs, ds, h1, e a List.mem_cons_self o h2, h3, h4, h5.mono ez, rfl⟩
  | .nd c, v, d, fp, e, h => by
    rcases h with h | ⟨a, o, k, vs, ds, f, h1, h2, h3, h4, h5, h6⟩
    · exact .inl h
    · subst h6
      refine .inr ⟨a, o, k, vs, ds, f, h1, e a List.mem_cons_self o h2, h3, h4, ?_, rfl⟩
      exact RepL.imp (fun i v d f' m q => Rep.frame (t := c i) ez (fun b hb => e b (List.mem_cons_of_mem _ (m b hb))) q) h5
theorem RepL.alive {P : Nat → V → D → List Addr → Prop} {A : Addr → Prop} (e : ∀ i v d f, P i v d f → ∀ a ∈ f, A a) : ∀ {vs ds fp i}, RepL P i vs ds fp → ∀ a ∈ fp, A a
  | [], [], _, _, h, a, m => by rw [show _ = [] from h] at m; cases m
  | v :: vs, d :: ds, fp, i, ⟨f1, f2, h1, h2, h3⟩, a, m => by
    rw [h3] at m
    rcases List.mem_append.mp m with m | m
    · exact e i v d f1 h1 a m
    · exact RepL.alive e h2 a m
  | [], _ :: _, _, _, h, _, _ => h.elim
  | _ :: _, [], _, _, h, _, _ => h.elim
theorem Rep.alive : ∀ {t v d fp}, Rep K Z H t v d fp → ∀ a ∈ fp, ∃ o, H a = some o
  | .fz, _, _, _, ⟨_, e⟩, a, m => by rw [e] at m; cases m
  | .o1, v, d, fp, h, b, m => by
    rcases h with ⟨_, e⟩ | ⟨a, o, k, vs, ds, h1, h2, h3, h4, h5, h6⟩
    · rw [e] at m; cases m
    · subst h6
      rcases List.mem_cons.mp m with rfl | m
      · exact ⟨o, h2⟩
      · cases m
  | .nd c, v, d, fp, h, b, m => by
    rcases h with ⟨_, e⟩ | ⟨a, o, k, vs, ds, f, h1, h2, h3, h4, h5, h6⟩
    · rw [e] at m; cases m
    · subst h6
      rcases List.mem_cons.mp m with rfl | m
      · exact ⟨o, h2⟩
      · exact RepL.alive (fun i v d f' q => Rep.alive (t := c i) q) h5 b m
theorem Rep.owned : ∀ {t v d fp}, Rep K Z H t v d fp → ∀ a ∈ fp, ∃ o, H a = some o ∧ ¬ isCd o
  | .fz, _, _, _, ⟨_, e⟩, a, m => by rw [e] at m; cases m
  | .o1, v, d, fp, h, b, m => by
    rcases h with ⟨_, e⟩ | ⟨a, o, k, vs, ds, h1, h2, h3, h4, h5, h6⟩
    · rw [e] at m; cases m
    · subst h6
      rcases List.mem_cons.mp m with rfl | m
      · exact ⟨o, h2, oview_nc h3⟩
      · cases m
  | .nd c, v, d, fp, h, b, m => by
    rcases h with ⟨_, e⟩ | ⟨a, o, k, vs, ds, f, h1, h2, h3, h4, h5, h6⟩
    · rw [e] at m; cases m
    · subst h6
      rcases List.mem_cons.mp m with rfl | m
      · exact ⟨o, h2, oview_nc h3⟩
      · exact RepL.alive (fun i v d f' q => Rep.owned (t := c i) q) h5 b m
/-- Z and what H holds at F -/
def zcat (Z H : Hp) (F : List Addr) : Hp := fun a => match Z a with
  | some o => some o
  | none => if a ∈ F then H a else none
theorem zcat_le {F : List Addr} : Le Z (zcat Z H F) := fun a o h => by unfold zcat; rw [h]
theorem zcat_new {F : List Addr} {a : Addr} {o : HO} (h : Z a = none) (m : a ∈ F) (e : H a = some o) : zcat Z H F a = some o := by unfold zcat; rw [h]; simp [m, e]
theorem zcat_of {F : List Addr} {a : Addr} {o : HO} (h : zcat Z H F a = some o) : Z a = some o ∨ (a ∈ F ∧ H a = some o) := by
  unfold zcat at h
  cases q : Z a with
  | some u => rw [q] at h; exact .inl h
  | none =>
    rw [q] at h
    by_cases m : a ∈ F
    · simp [m] at h; exact .inr ⟨m, h⟩
    · simp [m] at h
theorem RepL.fr {P : Nat → V → D → List Addr → Prop} {ZZ : Hp} : ∀ {vs ds fp i}, (∀ i v d f, (∀ a ∈ f, a ∈ fp) → P i v d f → FRep K ZZ v d) → RepL P i vs ds fp → FReps K ZZ vs ds
  | [], [], _, _, _, _ => .nil
  | v :: vs, d :: ds, fp, i, e, ⟨f1, f2, h1, h2, h3⟩ =>
    .cons (e i v d f1 (fun a m => by rw [h3]; exact List.mem_append_left _ m) h1) (RepL.fr (fun i v d f m => e i v d f fun a z => by rw [h3]; exact List.mem_append_right _ (m a z)) h2)
  | [], _ :: _, _, _, _, h => h.elim
  | _ :: _, [], _, _, _, h => h.elim
/-- what is owned is frozen -/
theorem Rep.freeze {F : List Addr} : ∀ {t v d fp}, (∀ a ∈ fp, Z a = none ∧ a ∈ F) → Rep K Z H t v d fp → FRep K (zcat Z H F) v d
  | .fz, _, _, _, _, ⟨h, _⟩ => h.mono zcat_le
  | .o1, v, d, fp, e, h => by
    rcases h with h | ⟨a, o, k, vs, ds, h1, h2, h3, h4, h5, h6⟩
    · exact .leaf h.1
    · subst h6 h1
      exact .node (zcat_new (e a List.mem_cons_self).1 (e a List.mem_cons_self).2 h2) h3 h4 (h5.mono zcat_le)
  | .nd c, v, d, fp, e, h => by
    rcases h with h | ⟨a, o, k, vs, ds, f, h1, h2, h3, h4, h5, h6⟩
    · exact .leaf h.1
    · subst h6 h1
      exact .node (zcat_new (e a List.mem_cons_self).1 (e a List.mem_cons_self).2 h2) h3 h4 (RepL.fr (fun i v d f' m q => Rep.freeze (t := c i) (fun b hb => e b (List.mem_cons_of_mem _ (m b hb))) q) h5)
/-- H with its locks open -/
def rdH (H : Hp) : Hp := fun a => match H a with
  | some (.frz _ (.dK k)) => some (.dK k)
  | some (.frz _ (.dT k)) => some (.dT k)
  | some (.tbl _) => none
  | x => x
theorem rdH_of {a : Addr} {o : HO} {p : Kd × List V} (h : H a = some o) (n : oview o = some p) : rdH H a = some o := by
  unfold rdH; rw [h]
  split
  · rename_i e; cases e; cases n
  · rename_i e; cases e; cases n
  · rename_i e; cases e; cases n
  · rfl
theorem rdH_frz {a : Addr} {o : HO} {b : Obj} (h : H a = some (.frz b o)) (l : lockable o) : rdH H a = some o := by
  unfold rdH; rw [h]
  cases o <;> first | rfl | exact l.elim
theorem of_rdH {a : Addr} {o : HO} (h : rdH H a = some o) : H a = some o ∨ (lockable o ∧ ∃ b, H a = some (.frz b o)) := by
  unfold rdH at h
  split at h
  · rename_i b u e; cases h; exact .inr ⟨trivial, b, e⟩
  · rename_i b u e; cases h; exact .inr ⟨trivial, b, e⟩
  · cases h
  · exact .inl h
theorem rdH_nt {a : Addr} {m : Array Value} (h : rdH H a = some (.tbl m)) : False := by
  unfold rdH at h
  split at h
  · cases h
  · cases h
  · cases h
  · rename_i n; exact n _ h
theorem rdH_sub : Sub (rdH H) H := ⟨fun _ _ h _ => of_rdH h, fun _ _ h => (rdH_nt h).elim⟩
theorem rdH_ext {a : Addr} {φ : Heap → Prop} (h : H a = some (.ext φ)) : rdH H a = some (.ext φ) := by unfold rdH; rw [h]
theorem rdH_xd {a : Addr} {fs : List (Str × V)} (h : H a = some (.xd fs)) : rdH H a = some (.xd fs) := by unfold rdH; rw [h]
theorem Sub.ext {a : Addr} {φ : Heap → Prop} (s : Sub Z H) (h : Z a = Option.some (HO.ext φ)) : H a = Option.some (HO.ext φ) := (s.fz _ _ h (fun z => z)).elim (fun z => z) fun z => (show False from z.1).elim
theorem Sub.xd {a : Addr} {fs : List (Str × V)} (s : Sub Z H) (h : Z a = Option.some (HO.xd fs)) : H a = Option.some (HO.xd fs) := (s.fz _ _ h (fun z => z)).elim (fun z => z) fun z => (show False from z.1).elim
theorem TupX.at_ (s : Sub Z H) {a : Addr} {vs : List V} (h : TupX Z a vs) : ∃ b, H a = some (.frz b (.tup vs)) ∧ b.dict = none := by
  obtain ⟨b, h1, h2⟩ := h
  rcases s.fz _ _ h1 (fun z => z) with z | ⟨z, _⟩
  · exact ⟨b, z, h2⟩
  · exact (show False from z).elim
theorem TupX.rd (s : Sub Z H) {a : Addr} {vs : List V} (h : TupX Z a vs) : TupX (rdH H) a vs := by
  obtain ⟨b, h1, h2⟩ := h.at_ s
  exact ⟨b, by unfold rdH; rw [h1], h2⟩
theorem TupK.rd (s : Sub Z H) {a : Addr} {vs : List V} (h : Z a = some (.tup vs)) : rdH H a = some (.tup vs) := by
  rcases s.fz _ _ h (fun z => z) with z | ⟨z, _⟩
  · unfold rdH; rw [z]
  · exact (show False from z).elim
theorem SqW.rd (s : Sub Z H) {k : Kd} {a : Addr} {vs : List V} (h : SqW K Z k a vs) : SqW K (rdH H) k a vs := by
  cases k with
  | tup => exact h.imp id (TupX.rd s)
  | tpx => exact TupX.rd s h
  | tpk => exact TupK.rd s h
  | scr => exact h
  | err C ns =>
    obtain ⟨dx, fs, h1, h2, h3, h4⟩ := h
    exact ⟨dx, fs, rdH_ext (s.ext h1), rdH_xd (s.xd h2), h3, h4⟩
  | fnv f c q ws => exact ⟨h.1, rdH_ext (s.ext h.2.1), h.2.2⟩
  | _ => exact h.elim
mutual
/-- what can be read stands in H -/
theorem FRep.rd (s : Sub Z H) : ∀ {v d}, FRep K Z v d → FRep K (rdH H) v d
  | _, _, .leaf h => .leaf h
  | _, _, .node (a := a) (o := o) h1 h2 h3 h4 => .node (a := a) (o := o) (by
      rcases s.fz a o h1 (oview_nt h2) with z | ⟨l, b, z⟩
      · exact rdH_of z h2
      · exact rdH_frz z l) h2 h3 (FReps.rd s h4)
  | _, _, .wr h1 h3 h4 => .wr (h1.rd s) h3 (FReps.rd s h4)
theorem FReps.rd (s : Sub Z H) : ∀ {vs ds}, FReps K Z vs ds → FReps K (rdH H) vs ds
  | _, _, .nil => .nil
  | _, _, .cons h t => .cons (FRep.rd s h) (FReps.rd s t)
end
theorem Rep.rd (s : Sub Z H) : ∀ {t v d fp}, Rep K Z H t v d fp → FRep K (rdH H) v d
  | .fz, _, _, _, ⟨h, _⟩ => h.rd s
  | .o1, v, d, fp, h => by
    rcases h with h | ⟨a, o, k, vs, ds, h1, h2, h3, h4, h5, h6⟩
    · exact .leaf h.1
    · subst h1; exact .node (rdH_of h2 h3) h3 h4 (h5.rd s)
  | .nd c, v, d, fp, h => by
    rcases h with h | ⟨a, o, k, vs, ds, f, h1, h2, h3, h4, h5, h6⟩
    · exact .leaf h.1
    · subst h1; exact .node (rdH_of h2 h3) h3 h4 (RepL.fr (fun i v d f' m q => Rep.rd s (t := c i) q) h5)
theorem FRep.leaf_of {v : V} {d : D} (hd : dview K d = none) : FRep K Z v d → Leaf K v d
  | .leaf h => h
  | .node _ _ h3 _ => by rw [hd] at h3; cases h3
  | .wr _ h3 _ => by rw [hd] at h3; cases h3
theorem Rep.leaf_of {t : Tg} {v : V} {d : D} {fp : List Addr} (s : Sub Z H) (hd : dview K d = none) (h : Rep K Z H t v d fp) : Leaf K v d := (h.rd s).leaf_of hd
/-- a node that can be read -/
theorem FRep.node_of {v : V} {d : D} {k : Kd} {ds : List D} (hd : dview K d = some (k, ds)) (h : FRep K Z v d) :
    ∃ a vs, v = .ref a ∧ FReps K Z vs ds ∧ ((∃ o, Z a = some o ∧ oview o = some (k, vs)) ∨ SqW K Z k a vs) := by
  cases h with
  | leaf h => cases h <;> cases hd
  | node h1 h2 h3 h4 =>
    rw [hd] at h3; cases h3
    exact ⟨_, _, rfl, h4, .inl ⟨_, h1, h2⟩⟩
  | wr h1 h3 h4 => rw [hd] at h3; cases h3; exact ⟨_, _, rfl, h4, .inr h1⟩
theorem oview_frz {b : Obj} {o : HO} {k : Kd} {vs : List V} (h : oview (.frz b o) = some (k, vs)) : k = .scr ∧ o = .lst vs := by
  cases o <;> cases h
  exact ⟨rfl, rfl⟩
theorem oview_tup {o : HO} {vs : List V} (h : oview o = some (.tup, vs)) : o = .tup vs := by
  cases o with
  | tup xs => cases h; rfl
  | frz b o => cases (oview_frz h).1
  | _ => cases h
theorem oview_tpx {o : HO} {vs : List V} (h : oview o = some (.tpx, vs)) : False := by
  cases o with
  | frz b o => cases (oview_frz h).1
  | _ => cases h
theorem oview_tpk {o : HO} {vs : List V} (h : oview o = some (.tpk, vs)) : False := by
  cases o with
  | frz b o => cases (oview_frz h).1
  | _ => cases h
theorem oview_lst {o : HO} {vs : List V} (h : oview o = some (.lst, vs)) : o = .lst vs := by
  cases o with
  | lst xs => cases h; rfl
  | frz b o => cases (oview_frz h).1
  | _ => cases h
theorem oview_scr {o : HO} {vs : List V} (h : oview o = some (.scr, vs)) : ∃ b, o = .frz b (.lst vs) := by
  cases o with
  | frz b o => obtain ⟨_, rfl⟩ := oview_frz h; exact ⟨b, rfl⟩
  | _ => cases h
theorem oview_dk {o : HO} {ks : List Key} {vs : List V} (h : oview o = some (.dk ks, vs)) : ∃ kvs, o = .dK kvs ∧ kvs.map (·.1) = ks ∧ kvs.map (·.2) = vs := by
  cases o with
  | dK kvs => cases h; exact ⟨_, rfl, rfl, rfl⟩
  | frz b o => cases (oview_frz h).1
  | _ => cases h
theorem oview_ins {o : HO} {C : Addr} {ns : List Str} {vs : List V} (h : oview o = some (.ins C ns, vs)) : ∃ dx fs, o = .ins C dx fs ∧ fs.map (·.1) = ns ∧ fs.map (·.2) = vs := by
  cases o with
  | ins C dx fs => cases h; exact ⟨_, _, rfl, rfl, rfl⟩
  | frz b o => cases (oview_frz h).1
  | _ => cases h
theorem sqT_wr (s : Sub Z H) {a : Addr} {vs : List V} (h : SqT K (fun _ => none) a vs ∨ TupX Z a vs) : SqT K H a vs := by
  rcases h with ((h | ⟨_, h⟩) | h) | h
  · cases h
  · cases h
  · exact .inr h
  · obtain ⟨b, h1, _⟩ := h.at_ s
    exact .inl (.inr ⟨b, h1⟩)
theorem FRep.tup_of {v : V} {ds : List D} (h : FRep K (rdH H) v (.tup ds)) : ∃ a vs, v = .ref a ∧ SqT K H a vs ∧ FReps K (rdH H) vs ds := by
  obtain ⟨a, vs, h1, h2, h3⟩ := h.node_of (k := .tup) (ds := ds) rfl
  refine ⟨a, vs, h1, ?_, h2⟩
  rcases h3 with ⟨o, h3, h4⟩ | h3
  · rw [oview_tup h4] at h3; exact .inl (rdH_sub.rd h3 id)
  · exact sqT_wr rdH_sub h3
/-- a list stands in H as it is -/
theorem FRep.lst_of {v : V} {ds : List D} (s : Sub Z H) (h : FRep K Z v (.lst ds)) : ∃ a vs, v = .ref a ∧ H a = some (.lst vs) ∧ FReps K Z vs ds := by
  obtain ⟨a, vs, h1, h2, h3⟩ := h.node_of (k := .lst) (ds := ds) rfl
  refine ⟨a, vs, h1, ?_, h2⟩
  rcases h3 with ⟨o, h3, h4⟩ | q
  · rw [oview_lst h4] at h3
    rcases s.fz _ _ h3 id with z | ⟨z, _⟩
    · exact z
    · exact z.elim
  · exact q.elim
theorem FRep.ins_of {v : V} {c : Str} {fs : List (Str × D)} (s : Sub Z H) (h : FRep K Z v (.ins c fs)) : ∃ a dx gs, v = .ref a ∧ H a = some (.ins (He.ga K c) dx gs) ∧ gs.map (·.1) = fs.map (·.1) ∧ FReps K Z (gs.map (·.2)) (fs.map (·.2)) := by
  obtain ⟨a, vs, h1, h2, h3⟩ := h.node_of (k := .ins (He.ga K c) (fs.map (·.1))) (ds := fs.map (·.2)) rfl
  rcases h3 with ⟨o, h3, h4⟩ | q
  · obtain ⟨dx, gs, rfl, e1, rfl⟩ := oview_ins h4
    exact ⟨a, dx, gs, h1, s.ins h3, e1, h2⟩
  · exact q.elim
theorem FRep.dk_of {v : V} {kvs : List (Key × D)} (s : Sub Z H) (h : FRep K Z v (.dk kvs)) : ∃ a gs, v = .ref a ∧ Rd H a (.dK gs) ∧ gs.map (·.1) = kvs.map (·.1) ∧ FReps K Z (gs.map (·.2)) (kvs.map (·.2)) := by
  obtain ⟨a, vs, h1, h2, h3⟩ := h.node_of (k := .dk (kvs.map (·.1))) (ds := kvs.map (·.2)) rfl
  rcases h3 with ⟨o, h3, h4⟩ | q
  · obtain ⟨gs, rfl, e1, rfl⟩ := oview_dk h4
    exact ⟨a, gs, h1, s.rd h3 id, e1, h2⟩
  · exact q.elim
theorem FReps.ints : ∀ {vs : List V} {xs : List Int}, FReps K Z vs (xs.map D.int) → vs = xs.map V.int
  | _, [], .nil => rfl
  | _, x :: r, .cons q t => by
    have h := q.leaf_of (d := .int x) rfl
    cases h
    rw [FReps.ints t]; rfl
theorem sqL_wr {a : Addr} {vs : List V} (h : SqL K (fun _ => none) a vs) : SqL K H a vs := by
  rcases h with (h | ⟨_, h⟩) | h
  · cases h
  · cases h
  · exact .inr h
theorem FRep.scr_of {v : V} {xs : List Int} (s : Sub Z H) (h : FRep K Z v (.scr xs)) : ∃ a, v = .ref a ∧ SqL K H a (xs.map V.int) := by
  obtain ⟨a, vs, h1, h2, h3⟩ := h.node_of (k := .scr) (ds := xs.map .int) rfl
  obtain rfl := FReps.ints h2
  rcases h3 with ⟨o, h3, h4⟩ | q
  · obtain ⟨b, rfl⟩ := oview_scr h4
    refine ⟨a, h1, .inl (.inr ⟨b, ?_⟩)⟩
    rcases s.fz _ _ h3 id with z | ⟨z, _⟩
    · exact z
    · exact z.elim
  · exact ⟨a, h1, sqL_wr q⟩
/-- its parts are never changed any more -/
def Tg.flat : Tg → Bool
  | .nd _ => false
  | _ => true
/-- of what is owned itself at most: as if it were frozen in Z and H at fp -/
theorem Rep.flat {t : Tg} {v : V} {d : D} {fp : List Addr} {k : Kd} {ds : List D} (ht : t.flat = true) (s : Sub Z H) (hd : dview K d = some (k, ds)) (h : Rep K Z H t v d fp) :
    ∃ Z1, Sub Z1 H ∧ FRep K Z1 v d ∧ ∃ a vs, v = .ref a ∧ FReps K Z vs ds ∧ ((∃ o, (Z a = some o ∨ H a = some o) ∧ oview o = some (k, vs)) ∨ SqW K Z k a vs) := by
  refine ⟨rdH H, rdH_sub, h.rd s, ?_⟩
  cases t with
  | nd c => cases ht
  | fz =>
    obtain ⟨a, vs, h1, h2, h3⟩ := h.1.node_of hd
    exact ⟨a, vs, h1, h2, h3.imp (fun ⟨o, z, q⟩ => ⟨o, .inl z, q⟩) id⟩
  | o1 =>
    rcases h with ⟨h, _⟩ | ⟨a, o, k', vs, ds', h1, h2, h3, h4, h5, h6⟩
    · cases h <;> cases hd
    · rw [hd] at h4; cases h4
      exact ⟨a, vs, h1, h5, .inl ⟨o, .inr h2, h3⟩⟩
theorem FReps.len : ∀ {vs : List V} {ds : List D}, FReps K Z vs ds → vs.length = ds.length
  | _, _, .nil => rfl
  | _, _, .cons _ t => congrArg (· + 1) (FReps.len t)
theorem FReps.get : ∀ {vs : List V} {ds : List D} {i : Nat} {d : D}, FReps K Z vs ds → ds[i]? = some d → ∃ v, vs[i]? = some v ∧ FRep K Z v d
  | _, _, i, _, .nil, e => by simp at e
  | _, _, 0, _, .cons r _, e => by simp at e; subst e; exact ⟨_, rfl, r⟩
  | _, _, i + 1, _, .cons _ t, e => by simpa using FReps.get (i := i) t (by simpa using e)
theorem FReps.app : ∀ {vs us : List V} {ds es : List D}, FReps K Z vs ds → FReps K Z us es → FReps K Z (vs ++ us) (ds ++ es)
  | _, _, _, _, .nil, h => h
  | _, _, _, _, .cons r t, h => .cons r (FReps.app t h)
theorem FReps.take : ∀ {vs : List V} {ds : List D} (n : Nat), FReps K Z vs ds → FReps K Z (vs.take n) (ds.take n)
  | _, _, 0, _ => .nil
  | _, _, _ + 1, .nil => .nil
  | _, _, n + 1, .cons r t => .cons r (FReps.take n t)
theorem FReps.drop : ∀ {vs : List V} {ds : List D} (n : Nat), FReps K Z vs ds → FReps K Z (vs.drop n) (ds.drop n)
  | _, _, 0, r => r
  | _, _, _ + 1, .nil => .nil
  | _, _, n + 1, .cons _ t => FReps.drop n t
theorem FReps.set {v : V} {d : D} (r : FRep K Z v d) : ∀ {vs : List V} {ds : List D} (n : Nat), FReps K Z vs ds → FReps K Z (vs.set n v) (ds.set n d)
  | _, _, _, .nil => .nil
  | _, _, 0, .cons _ t => .cons r t
  | _, _, n + 1, .cons q t => .cons q (FReps.set r n t)
end
end Mi
namespace Mi
open PySem PySem.Spec PyProof.Rows L2 Rt
/-- what a name (or a value on the way) is: unknown; never changed any more; owned; what name i holds -/
inductive Sl where
  | un | fz (d : D) | ow (t : Tg) (d : D) | al (i : Nat)
structure Ent where
  v : Option V
  s : Sl
  fp : List Addr
abbrev vsOf (es : List Ent) : List (Option V) := es.map Ent.v
abbrev ssOf (es : List Ent) : List Sl := es.map Ent.s
abbrev fpsOf (es : List Ent) : List Addr := es.flatMap Ent.fp
def EntOk (K : PySem.W.Frag) (Z H : Hp) (es : List Ent) (e : Ent) : Prop := match e.s with
  | .un => e.fp = []
  | .fz d => ∃ x, e.v = some x ∧ FRep K Z x d ∧ e.fp = []
  | .ow t d => ∃ x, e.v = some x ∧ Rep K Z H t x d e.fp
  | .al i => e.fp = [] ∧ ∃ u x, es[i]? = some u ∧ u.v = some x ∧ e.v = some x
structure Sat (K : PySem.W.Frag) (Z H : Hp) (es ts : List Ent) : Prop where
  sub : SubM K Z H
  nd : (fpsOf (es ++ ts)).Nodup
  zf : ∀ a ∈ fpsOf (es ++ ts), Z a = none
  ok : ∀ e ∈ es ++ ts, EntOk K Z H es e
/-- what may happen to a frozen thing: a dict is locked for good, a table of code objects grows -/
def Chg (o : HO) (u : Option HO) : Prop := (lockable o ∧ ∃ b, u = some (.frz b o)) ∨ (isTbl o ∧ ∃ ps, u = some (.tbl ps))
theorem Chg.some {o : HO} {u : Option HO} (h : Chg o u) : ∃ w, u = Option.some w := h.elim (fun ⟨_, b, e⟩ => ⟨_, e⟩) fun ⟨_, ps, e⟩ => ⟨_, e⟩
theorem Chg.lk {o : HO} {u : Option HO} (h : Chg o u) (n : ¬ isTbl o) : lockable o ∧ ∃ b, u = Option.some (.frz b o) := h.elim id fun z => absurd z.1 n
theorem Chg.no {o : HO} {u : Option HO} (h : Chg o u) (n : ¬ lockable o) (m : ¬ isTbl o) : False := h.elim (fun z => n z.1) fun z => m z.1
structure Step (Z H : Hp) (F : List Addr) (Z' H' : Hp) (F' : List Addr) : Prop where
  keep : ∀ a o, H a = some o → a ∉ F → H' a = some o ∨ ((∃ z, Z a = some z) ∧ Chg o (H' a))
  fps : ∀ a ∈ F', a ∈ F ∨ H a = none
  z : Le Z Z'
  zn : ∀ a o, Z' a = some o → Z a = some o ∨ a ∈ F ∨ H a = none
theorem Step.refl {Z H : Hp} {F F' : List Addr} (h : ∀ a ∈ F', a ∈ F) : Step Z H F Z H F' := ⟨fun _ _ e _ => .inl e, fun a m => .inl (h a m), Le.refl _, fun _ _ e => .inl e⟩
theorem Step.tr {Z H Z1 H1 Z2 H2 : Hp} {F F1 F2 : List Addr} (a : Step Z H F Z1 H1 F1) (b : Step Z1 H1 F1 Z2 H2 F2) : Step Z H F Z2 H2 F2 := by
  have nf : ∀ c o, H c = some o → c ∉ F → c ∉ F1 := fun c o e n m => by
    rcases a.fps c m with z | z
    · exact n z
    · rw [e] at z; cases z
  have nn : ∀ c, H1 c = none → c ∈ F ∨ H c = none := fun c z => by
    by_cases m : c ∈ F
    · exact .inl m
    · right
      cases q : H c with
      | none => rfl
      | some o =>
        rcases a.keep c o q m with k | ⟨_, k⟩
        · rw [k] at z; cases z
        · obtain ⟨w, k⟩ := k.some
          rw [k] at z; cases z
  refine ⟨fun c o e n => ?_, fun c m => ?_, a.z.tr b.z, fun c o e => ?_⟩
  · rcases a.keep c o e n with k | ⟨k1, ⟨k2, b1, k3⟩ | ⟨k2, ps, k3⟩⟩
    · rcases b.keep c o k (nf c o e n) with q | ⟨⟨z, q1⟩, q2⟩
      · exact .inl q
      · refine .inr ⟨?_, q2⟩
        rcases a.zn c z q1 with w | w | w
        · exact ⟨z, w⟩
        · exact (n w).elim
        · rw [e] at w; cases w
    · rcases b.keep c _ k3 (nf c o e n) with q | ⟨_, ⟨q, _⟩ | ⟨q, _⟩⟩
      · exact .inr ⟨k1, .inl ⟨k2, b1, q⟩⟩
      · exact q.elim
      · exact q.elim
    · rcases b.keep c _ k3 (nf c o e n) with q | ⟨_, ⟨q, _⟩ | ⟨_, ps', q⟩⟩
      · exact .inr ⟨k1, .inr ⟨k2, ps, q⟩⟩
      · exact q.elim
      · exact .inr ⟨k1, .inr ⟨k2, ps', q⟩⟩
  · rcases b.fps c m with z | z
    · exact a.fps c z
    · exact nn c z
  · rcases b.zn c o e with z | z | z
    · exact a.zn c o z
    · exact .inr (a.fps c z)
    · exact .inr (nn c z)
theorem Step.own {Z H Z1 H1 : Hp} {F F1 : List Addr} (st : Step Z H F Z1 H1 F1) {a : Addr} {o : HO} (z : Z a = none) (e : H a = some o) (n : a ∉ F) : H1 a = some o := by
  rcases st.keep a o e n with k | ⟨⟨_, k⟩, _⟩
  · exact k
  · rw [z] at k; cases k
theorem Step.wide {Z H Z1 H1 : Hp} {F F1 G : List Addr} (a : Step Z H F Z1 H1 F1) (h : ∀ c ∈ F, c ∈ G) : Step Z H G Z1 H1 F1 :=
  ⟨fun c o e n => a.keep c o e fun m => n (h c m), fun c m => (a.fps c m).imp (h c) id, a.z, fun c o e => (a.zn c o e).imp id fun z => z.imp (h c) id⟩
theorem Step.less {Z H Z1 H1 : Hp} {F F1 G : List Addr} (a : Step Z H F Z1 H1 F1) (h : ∀ c ∈ G, c ∈ F1) : Step Z H F Z1 H1 G :=
  ⟨a.keep, fun c m => a.fps c (h c m), a.z, a.zn⟩
section
variable {K : PySem.W.Frag} {Z H Z' H' Z1 H1 Z2 H2 : Hp} {es es1 es2 ts us : List Ent}
theorem mem_fps {l : List Ent} {a : Addr} : a ∈ fpsOf l ↔ ∃ e ∈ l, a ∈ e.fp := by simp [List.mem_flatMap]
theorem EntOk.alive {e : Ent} (h : EntOk K Z H es e) : ∀ a ∈ e.fp, ∃ o, H a = some o := by
  intro a m
  unfold EntOk at h
  split at h
  · rw [h] at m; cases m
  · obtain ⟨_, _, _, q⟩ := h; rw [q] at m; cases m
  · obtain ⟨x, _, q⟩ := h; exact q.alive a m
  · rw [h.1] at m; cases m
theorem Sat.alive (s : Sat K Z H es ts) : ∀ a ∈ fpsOf (es ++ ts), ∃ o, H a = some o := by
  intro a m
  obtain ⟨e, me, ma⟩ := mem_fps.mp m
  exact (s.ok e me).alive a ma
theorem EntOk.owned {e : Ent} (h : EntOk K Z H es e) : ∀ a ∈ e.fp, ∃ o, H a = some o ∧ ¬ isCd o := by
  intro a m
  unfold EntOk at h
  split at h
  · rw [h] at m; cases m
  · obtain ⟨_, _, _, q⟩ := h; rw [q] at m; cases m
  · obtain ⟨x, _, q⟩ := h; exact q.owned a m
  · rw [h.1] at m; cases m
theorem Sat.owned (s : Sat K Z H es ts) : ∀ a ∈ fpsOf (es ++ ts), ∃ o, H a = some o ∧ ¬ isCd o := by
  intro a m
  obtain ⟨e, me, ma⟩ := mem_fps.mp m
  exact (s.ok e me).owned a ma
theorem Sat.noCd (s : Sat K Z H es ts) {a : Addr} (m : a ∈ fpsOf (es ++ ts)) : ∀ o0, H a = some o0 → ¬ isCd o0 := fun o0 q => by
  obtain ⟨w, h1, h2⟩ := s.owned a m
  rw [q] at h1; cases h1; exact h2
theorem EntOk.frame {e : Ent} (h : EntOk K Z H es e) (hz : Le Z Z') (hk : ∀ a ∈ e.fp, ∀ o, H a = some o → H' a = some o) (hv : vsOf es2 = vsOf es) : EntOk K Z' H' es2 e := by
  unfold EntOk at h ⊢
  split at h
  · exact h
  · obtain ⟨x, h1, h2, h3⟩ := h; exact ⟨x, h1, h2.mono hz, h3⟩
  · obtain ⟨x, h1, h2⟩ := h; exact ⟨x, h1, h2.frame hz hk⟩
  · obtain ⟨h0, u, x, h1, h2, h3⟩ := h
    rename_i i _
    have e1 : (vsOf es2)[i]? = some (some x) := by rw [hv, List.getElem?_map, h1]; simp [h2]
    rw [List.getElem?_map] at e1
    cases q : es2[i]? with
    | none => rw [q] at e1; cases e1
    | some u2 => rw [q] at e1; simp at e1; exact ⟨h0, u2, x, rfl, e1, h3⟩
theorem fps_app {a b : List Ent} {c : Addr} : c ∈ fpsOf (a ++ b) ↔ c ∈ fpsOf a ∨ c ∈ fpsOf b := by simp [List.flatMap_append]
/-- what is on the way stands while a part is reckoned -/
theorem Sat.frame (s : Sat K Z1 H1 es1 ts) (st : Step Z1 H1 (fpsOf es1) Z2 H2 (fpsOf (es2 ++ us))) (s2 : Sat K Z2 H2 es2 us) (hv : vsOf es2 = vsOf es1) :
    Sat K Z2 H2 es2 (ts ++ us) ∧ Step Z1 H1 (fpsOf (es1 ++ ts)) Z2 H2 (fpsOf (es2 ++ (ts ++ us))) := by
  have al : ∀ a ∈ fpsOf ts, ∃ o, H1 a = some o := fun a m => s.alive a (fps_app.mpr (.inr m))
  have nd := s.nd
  simp only [fpsOf, List.flatMap_append, List.nodup_append] at nd
  have nf : ∀ a ∈ fpsOf ts, a ∉ fpsOf es1 := fun a m z => nd.2.2 a z a m rfl
  have n2 : ∀ a ∈ fpsOf ts, a ∉ fpsOf (es2 ++ us) := fun a m z => by
    rcases st.fps a z with q | q
    · exact nf a m q
    · obtain ⟨o, e⟩ := al a m; rw [e] at q; cases q
  refine ⟨⟨s2.sub, ?_, fun a m => ?_, fun e m => ?_⟩, ?_⟩
  · have h2 := s2.nd
    simp only [fpsOf, List.flatMap_append, List.nodup_append] at h2 ⊢
    refine ⟨h2.1, ⟨nd.2.1, h2.2.1, fun a m b mb z => ?_⟩, fun a m b mb z => ?_⟩
    · subst z; exact n2 a m (fps_app.mpr (.inr mb))
    · subst z
      rcases List.mem_append.mp mb with q | q
      · exact n2 a q (fps_app.mpr (.inl m))
      · exact h2.2.2 a m a q rfl
  · rcases fps_app.mp m with q | q
    · exact s2.zf a (fps_app.mpr (.inl q))
    · rcases fps_app.mp q with q | q
      · cases e : Z2 a with
        | none => rfl
        | some o =>
          rcases st.zn a o e with z | z | z
          · rw [s.zf a (fps_app.mpr (.inr q))] at z; cases z
          · exact (nf a q z).elim
          · obtain ⟨o', e'⟩ := al a q; rw [e'] at z; cases z
      · exact s2.zf a (fps_app.mpr (.inr q))
  · rcases List.mem_append.mp m with q | q
    · exact s2.ok e (List.mem_append_left _ q)
    · rcases List.mem_append.mp q with q | q
      · exact (s.ok e (List.mem_append_right _ q)).frame st.z (fun a ma o e' => st.own (s.zf a (fps_app.mpr (.inr (mem_fps.mpr ⟨e, q, ma⟩)))) e' (nf a (mem_fps.mpr ⟨e, q, ma⟩))) hv
      · exact s2.ok e (List.mem_append_right _ q)
  · refine ⟨fun a o e n => st.keep a o e fun z => n (fps_app.mpr (.inl z)), fun a m => ?_, st.z, fun a o e => ?_⟩
    · rcases fps_app.mp m with q | q
      · exact (st.fps a (fps_app.mpr (.inl q))).imp (fun z => fps_app.mpr (.inl z)) id
      · rcases fps_app.mp q with q | q
        · exact .inl (fps_app.mpr (.inr q))
        · exact (st.fps a (fps_app.mpr (.inr q))).imp (fun z => fps_app.mpr (.inl z)) id
    · exact (st.zn a o e).imp id fun z => z.imp (fun z => fps_app.mpr (.inl z)) id
theorem Sat.drop (s : Sat K Z H es (ts ++ us)) : Sat K Z H es ts := by
  refine ⟨s.sub, ?_, fun a m => s.zf a ?_, fun e m => s.ok e ?_⟩
  · have := s.nd
    rw [← List.append_assoc] at this
    simp only [fpsOf, List.flatMap_append] at this ⊢
    exact (List.nodup_append.mp this).1
  · rw [← List.append_assoc]; exact fps_app.mpr (.inl m)
  · rw [← List.append_assoc]; exact List.mem_append_left _ m
theorem Sat.bare (s : Sat K Z H es ts) : Sat K Z H es [] := Sat.drop (ts := []) (us := ts) (by simpa using s)
end
inductive Ro (α : Type) where
  | ok (a : α) | exc (c : Str) (fs : List (Str × D)) (ss : List Sl) | stuck
def Ro.bind {α β : Type} : Ro α → (α → Ro β) → Ro β
  | .ok a, f => f a
  | .exc c fs ss, _ => .exc c fs ss
  | .stuck, _ => .stuck
abbrev FE := List Sl → Ro (Sl × List Sl)
abbrev FT := List Sl → Ro (Bool × List Sl)
abbrev FA := List Sl → Ro (List Sl × List Sl)
/-- an exception's own dict: frozen -/
def ExcD (K : PySem.W.Frag) (Z H : Hp) (d : Addr) (fs : List (Str × D)) : Prop := ∃ vs : List (Str × V), Z d = some (.xd vs) ∧ vs.map (·.1) = fs.map (·.1) ∧ FReps K Z (vs.map (·.2)) (fs.map (·.2))
abbrev EW := L2.St → XK
def Kon (K : PySem.W.Frag) (E : EW) (σ : L2.St) (Z H : Hp) (F : List Addr) {α : Type} (m : Ro (α × List Sl)) (rs : α → List Sl) (P : α → Hp → Hp → List Ent → List Ent → Prop) : Prop := match m with
  | .ok (a, ss') => ∀ Z' H' es' us, Step Z H F Z' H' (fpsOf (es' ++ us)) → Sat K Z' H' es' us → vsOf es' = σ → ssOf es' = ss' → ssOf us = rs a → P a Z' H' es' us
  | .exc c fs ss' => ∀ Z' H' es' d, Step Z H F Z' H' (fpsOf es') → Sat K Z' H' es' [] → vsOf es' = σ → ssOf es' = ss' → ExcD K Z' H' d fs → E σ (.ref (He.ga K c)) (some d) H'
  | .stuck => False
section
variable {K : PySem.W.Frag} {E : EW} {σ : L2.St} {Z H Z' H' Z1 H1 : Hp} {F F1 : List Addr} {α β : Type} {m : Ro (α × List Sl)} {rs : α → List Sl} {P P' : α → Hp → Hp → List Ent → List Ent → Prop}
theorem Kon.from (st : Step Z H F Z1 H1 F1) (k : Kon K E σ Z H F m rs P) : Kon K E σ Z1 H1 F1 m rs P := by
  unfold Kon at k ⊢
  split at k
  · exact fun Z' H' es' us st' => k Z' H' es' us (st.tr st')
  · exact fun Z' H' es' d st' => k Z' H' es' d (st.tr st')
  · exact k
theorem Kon.mono (k : Kon K E σ Z H F m rs P) (h : ∀ a Z' H' es' us, ssOf us = rs a → P a Z' H' es' us → P' a Z' H' es' us) : Kon K E σ Z H F m rs P' := by
  unfold Kon at k ⊢
  split at k
  · exact fun Z' H' es' us st s h1 h2 h3 => h _ _ _ _ _ h3 (k Z' H' es' us st s h1 h2 h3)
  · exact k
  · exact k
end
/-- the readings by functions -/
def RE (K : PySem.W.Frag) (E : EW) (f : FE) : TE := fun σ H Q => ∃ Z es, Sat K Z H es [] ∧ vsOf es = σ ∧ Kon K E σ Z H (fpsOf es) (f (ssOf es)) (fun r => [r]) fun _ _ H' _ us => ∀ v, vsOf us = [some v] → Q v H'
def RT (K : PySem.W.Frag) (E : EW) (f : FT) : TT := fun σ H Q => ∃ Z es, Sat K Z H es [] ∧ vsOf es = σ ∧ Kon K E σ Z H (fpsOf es) (f (ssOf es)) (fun _ => []) fun b _ H' _ _ => Q b H'
def RA (K : PySem.W.Frag) (E : EW) (f : FA) : TA := fun σ H Q => ∃ Z es, Sat K Z H es [] ∧ vsOf es = σ ∧ Kon K E σ Z H (fpsOf es) (f (ssOf es)) (fun rs => rs) fun _ _ H' _ us => ∀ vs : List V, vsOf us = vs.map some → Q vs H'
section
variable {K : PySem.W.Frag} {E : EW} {σ : L2.St} {Z H Z' H' Z1 H1 Z2 H2 : Hp} {F F1 : List Addr} {α β : Type} {rs : β → List Sl} {P : β → Hp → Hp → List Ent → List Ent → Prop} {es es1 ts us : List Ent}
/-- the one lemma for what comes next; ts: what is on the way -/
theorem kon_next {m : Ro (α × List Sl)} {n : α × List Sl → Ro (β × List Sl)} {rm : α → List Sl} {Qm : α → Hp → Hp → List Ent → List Ent → Prop} (s : Sat K Z1 H1 es1 ts) (hv : vsOf es1 = σ) (k : Kon K E σ Z1 H1 (fpsOf (es1 ++ ts)) (m.bind n) rs P)
    (h : ∀ a Z2 H2 es2 us, ssOf us = rm a → Sat K Z2 H2 es2 (ts ++ us) → vsOf es2 = σ → Kon K E σ Z2 H2 (fpsOf (es2 ++ (ts ++ us))) (n (a, ssOf es2)) rs P → Qm a Z2 H2 es2 us) : Kon K E σ Z1 H1 (fpsOf es1) m rm Qm := by
  cases m with
  | ok p =>
    obtain ⟨a, ss'⟩ := p
    intro Z2 H2 es2 us st s2 h1 h2 h3
    obtain ⟨s3, st3⟩ := s.frame st s2 (h1.trans hv.symm)
    refine h a Z2 H2 es2 us h3 s3 h1 ?_
    subst h2
    exact Kon.from st3 k
  | exc c fs ss' =>
    intro Z2 H2 es2 d st s2 h1 h2 h3
    exact k Z2 H2 es2 d (st.wide fun a z => fps_app.mpr (.inl z)) s2 h1 h2 h3
  | stuck => exact k
theorem RE.next {f : FE} {n : Sl × List Sl → Ro (β × List Sl)} {Q : VK} (s : Sat K Z1 H1 es1 ts) (hv : vsOf es1 = σ) (k : Kon K E σ Z1 H1 (fpsOf (es1 ++ ts)) ((f (ssOf es1)).bind n) rs P)
    (h : ∀ r Z2 H2 es2 v fp, Sat K Z2 H2 es2 (ts ++ [⟨some v, r, fp⟩]) → vsOf es2 = σ → Kon K E σ Z2 H2 (fpsOf (es2 ++ (ts ++ [⟨some v, r, fp⟩]))) (n (r, ssOf es2)) rs P → Q v H2) : RE K E f σ H1 Q := by
  refine ⟨Z1, es1, s.bare, hv, kon_next s hv k fun a Z2 H2 es2 us e1 s2 e2 k2 v e3 => ?_⟩
  obtain ⟨u, rfl⟩ : ∃ u, us = [u] := List.length_eq_one_iff.mp (by have := congrArg List.length e3; simpa using this)
  obtain ⟨uv, usl, ufp⟩ := u
  simp only [List.map_cons, List.map_nil, List.cons.injEq, and_true] at e1 e3
  subst e1 e3
  exact h usl Z2 H2 es2 v ufp s2 e2 k2
theorem RT.next {f : FT} {n : Bool × List Sl → Ro (β × List Sl)} {Q : Bool → Hp → Prop} (s : Sat K Z1 H1 es1 ts) (hv : vsOf es1 = σ) (k : Kon K E σ Z1 H1 (fpsOf (es1 ++ ts)) ((f (ssOf es1)).bind n) rs P)
    (h : ∀ b Z2 H2 es2, Sat K Z2 H2 es2 ts → vsOf es2 = σ → Kon K E σ Z2 H2 (fpsOf (es2 ++ ts)) (n (b, ssOf es2)) rs P → Q b H2) : RT K E f σ H1 Q := by
  refine ⟨Z1, es1, s.bare, hv, kon_next s hv k fun a Z2 H2 es2 us e1 s2 e2 k2 => ?_⟩
  obtain rfl : us = [] := by simpa using e1
  rw [List.append_nil] at s2 k2
  exact h a Z2 H2 es2 s2 e2 k2
theorem RA.next {f : FA} {n : List Sl × List Sl → Ro (β × List Sl)} {Q : List V → Hp → Prop} (s : Sat K Z1 H1 es1 ts) (hv : vsOf es1 = σ) (k : Kon K E σ Z1 H1 (fpsOf (es1 ++ ts)) ((f (ssOf es1)).bind n) rs P)
    (h : ∀ Z2 H2 es2 us vs, vsOf us = vs.map some → Sat K Z2 H2 es2 (ts ++ us) → vsOf es2 = σ → Kon K E σ Z2 H2 (fpsOf (es2 ++ (ts ++ us))) (n (ssOf us, ssOf es2)) rs P → Q vs H2) : RA K E f σ H1 Q := by
  refine ⟨Z1, es1, s.bare, hv, kon_next s hv k fun a Z2 H2 es2 us e1 s2 e2 k2 vs e3 => ?_⟩
  subst e1
  exact h Z2 H2 es2 us vs e3 s2 e2 k2
end
end Mi
namespace Mi
open PySem PySem.Spec PyProof.Rows L2 Rt
def Sl.val (ss : List Sl) : Sl → Option (Tg × D)
  | .fz d => some (.fz, d)
  | .ow t d => some (t, d)
  | .al i => match ss[i]? with
    | some (.fz d) => some (.fz, d)
    | some (.ow t d) => some (t, d)
    | _ => none
  | .un => none
def valL (ss : List Sl) : List Sl → Option (List (Tg × D))
  | [] => some []
  | r :: rs => (r.val ss).bind fun x => (valL ss rs).bind fun xs => some (x :: xs)
def orS (o : Option Sl) (ss : List Sl) : Ro (Sl × List Sl) := match o with
  | some r => .ok (r, ss)
  | none => .stuck
section
variable {K : PySem.W.Frag} {E : EW} {σ : L2.St} {Z H Z' H' Z1 H1 Z2 H2 : Hp} {es es1 ts us : List Ent}
theorem Sat.val {e : Ent} {x : V} {t : Tg} {d : D} (s : Sat K Z H es ts) (m : e ∈ es ++ ts) (hx : e.v = some x) (h : e.s.val (ssOf es) = some (t, d)) : ∃ fp, Rep K Z H t x d fp ∧ ∀ a ∈ fp, a ∈ fpsOf (es ++ ts) := by
  have go : ∀ u ∈ es ++ ts, u.v = some x → (u.s = .fz d ∧ t = .fz ∨ u.s = .ow t d) → ∃ fp, Rep K Z H t x d fp ∧ ∀ a ∈ fp, a ∈ fpsOf (es ++ ts) := by
    intro u mu hu hh
    have ok := s.ok u mu
    unfold EntOk at ok
    rcases hh with ⟨e1, e2⟩ | e1
    · rw [e1] at ok
      obtain ⟨y, h1, h2, h3⟩ := ok
      rw [hu] at h1; cases h1; subst e2
      exact ⟨[], ⟨h2, rfl⟩, fun a z => by cases z⟩
    · rw [e1] at ok
      obtain ⟨y, h1, h2⟩ := ok
      rw [hu] at h1; cases h1
      exact ⟨_, h2, fun a z => mem_fps.mpr ⟨u, mu, z⟩⟩
  cases q : e.s with
  | un => rw [q] at h; cases h
  | fz d' => rw [q] at h; cases h; exact go e m hx (.inl ⟨q, rfl⟩)
  | ow t' d' => rw [q] at h; cases h; exact go e m hx (.inr q)
  | al i =>
    have ok := s.ok e m
    unfold EntOk at ok
    rw [q] at ok h
    obtain ⟨_, u, y, h1, h2, h3⟩ := ok
    rw [hx] at h3; cases h3
    have mu : u ∈ es ++ ts := List.mem_append_left _ (List.mem_of_getElem? h1)
    have e1 : (ssOf es)[i]? = some u.s := by rw [List.getElem?_map, h1]; rfl
    unfold Sl.val at h
    dsimp only at h
    rw [e1] at h
    cases qu : u.s with
    | un => rw [qu] at h; cases h
    | fz d' => rw [qu] at h; cases h; exact go u mu h2 (.inl ⟨qu, rfl⟩)
    | ow t' d' => rw [qu] at h; cases h; exact go u mu h2 (.inr qu)
    | al j => rw [qu] at h; cases h
/-- an operation that changes nothing has made a value -/
structure New (K : PySem.W.Frag) (Z H Z' H' : Hp) (v : V) (r : Sl) (fv : List Addr) : Prop where
  step : Step Z H [] Z' H' fv
  sub : SubM K Z' H'
  ok : EntOk K Z' H' [] ⟨some v, r, fv⟩
  nd : fv.Nodup
  zf : ∀ a ∈ fv, Z' a = none
theorem EntOk.any {e : Ent} (h : EntOk K Z H [] e) : EntOk K Z H es e := by
  unfold EntOk at h ⊢
  split at h
  · exact h
  · exact h
  · exact h
  · obtain ⟨_, _, _, q, _⟩ := h; simp at q
theorem Sat.new {v : V} {r : Sl} {fv : List Addr} (s : Sat K Z H es ts) (n : New K Z H Z' H' v r fv) : Sat K Z' H' es (ts ++ [⟨some v, r, fv⟩]) ∧ Step Z H (fpsOf (es ++ ts)) Z' H' (fpsOf (es ++ (ts ++ [⟨some v, r, fv⟩]))) := by
  have fr : ∀ a ∈ fv, H a = none := fun a m => (n.step.fps a m).elim (fun z => by cases z) id
  have own : ∀ a ∈ fpsOf (es ++ ts), ∀ o, H a = some o → H' a = some o := fun a m o e => n.step.own (s.zf a m) e (by simp)
  have ef : ∀ a, a ∈ fpsOf (es ++ (ts ++ [⟨some v, r, fv⟩])) ↔ a ∈ fpsOf (es ++ ts) ∨ a ∈ fv := fun a => by
    rw [← List.append_assoc, fps_app (a := es ++ ts)]; simp
  refine ⟨⟨n.sub, ?_, fun a m => ?_, fun e m => ?_⟩, ⟨fun a o e _ => n.step.keep a o e (by simp), fun a m => ?_, n.step.z, fun a o e => ?_⟩⟩
  · have nd := s.nd
    rw [← List.append_assoc]
    unfold fpsOf at nd ⊢
    rw [List.flatMap_append, List.nodup_append]
    refine ⟨nd, by simpa using n.nd, fun a m b mb z => ?_⟩
    subst z
    obtain ⟨o, e⟩ := s.alive a m
    rw [fr a (by simpa using mb)] at e; cases e
  · rcases (ef a).mp m with q | q
    · cases e : Z' a with
      | none => rfl
      | some o =>
        rcases n.step.zn a o e with z | z | z
        · rw [s.zf a q] at z; cases z
        · cases z
        · obtain ⟨o', e'⟩ := s.alive a q; rw [e'] at z; cases z
    · exact n.zf a q
  · rw [← List.append_assoc] at m
    rcases List.mem_append.mp m with q | q
    · exact (s.ok e q).frame n.step.z (fun a ma o e' => own a (mem_fps.mpr ⟨e, q, ma⟩) o e') rfl
    · obtain rfl := List.mem_singleton.mp q
      exact n.ok.any
  · rcases (ef a).mp m with q | q
    · exact .inl q
    · exact .inr (fr a q)
  · rcases n.step.zn a o e with z | z | z
    · exact .inl z
    · cases z
    · exact .inr (.inr z)
theorem Sat.dropL (s : Sat K Z H es (ts ++ us)) : Sat K Z H es us := by
  refine ⟨s.sub, ?_, fun a m => s.zf a ?_, fun e m => s.ok e ?_⟩
  · have := s.nd
    simp only [fpsOf, List.flatMap_append] at this ⊢
    rw [List.nodup_append] at this ⊢
    obtain ⟨h1, h2, h3⟩ := this
    exact ⟨h1, (List.nodup_append.mp h2).2.1, fun a m b mb => h3 a m b (List.mem_append_right _ mb)⟩
  · rcases fps_app.mp m with q | q
    · exact fps_app.mpr (.inl q)
    · exact fps_app.mpr (.inr (fps_app.mpr (.inr q)))
  · rcases List.mem_append.mp m with q | q
    · exact List.mem_append_left _ q
    · exact List.mem_append_right _ (List.mem_append_right _ q)
theorem fps_dropL : ∀ a ∈ fpsOf (es ++ us), a ∈ fpsOf (es ++ (ts ++ us)) := fun a m => by
  rcases fps_app.mp m with q | q
  · exact fps_app.mpr (.inl q)
  · exact fps_app.mpr (.inr (fps_app.mpr (.inr q)))
abbrev PQ (Q : VK) : Sl → Hp → Hp → List Ent → List Ent → Prop := fun _ _ H' _ us => ∀ v, vsOf us = [some v] → Q v H'
abbrev KQ (K : PySem.W.Frag) (E : EW) (σ : L2.St) (Z H : Hp) (F : List Addr) (m : Ro (Sl × List Sl)) (Q : VK) : Prop := Kon K E σ Z H F m (fun r => [r]) (PQ Q)
theorem fin_new {Q : VK} {v : V} {r : Sl} {fv : List Addr} (s : Sat K Z H es ts) (hv : vsOf es = σ) (k : KQ K E σ Z H (fpsOf (es ++ ts)) (.ok (r, ssOf es)) Q) (n : New K Z H Z' H' v r fv) : Q v H' := by
  obtain ⟨s', st⟩ := s.new n
  exact k Z' H' es [⟨some v, r, fv⟩] (st.less fps_dropL) s'.dropL hv rfl rfl v rfl
theorem New.leaf {v : V} {d : D} (s : SubM K Z H) (h : Leaf K v d) : New K Z H Z H v (.fz d) [] := ⟨Step.refl (by simp), s, ⟨v, rfl, .leaf h, rfl⟩, by simp, by simp⟩
theorem New.fz {v : V} {d : D} (s : SubM K Z H) (h : FRep K Z v d) : New K Z H Z H v (.fz d) [] := ⟨Step.refl (by simp), s, ⟨v, rfl, h, rfl⟩, by simp, by simp⟩
theorem SubM.upd {p : Addr} {o : HO} (s : SubM K Z H) (np : H p = none) : SubM K Z (L2.upd H p o) := ⟨⟨fun a u e n => by
  obtain ⟨w, q⟩ := s.some e
  rw [upd_ne (ne_of_none q np)]; exact s.fz a u e n, fun a m e => tabS_new (s.tb a m e) np⟩, s.tm⟩
/-- what is owned is written -/
theorem SubM.over {a : Addr} {o : HO} (s : SubM K Z H) (za : Z a = none) (hn : ∀ o0, H a = Option.some o0 → ¬ isCd o0) : SubM K Z (L2.upd H a o) := ⟨⟨fun b u e n => by
  have : b ≠ a := fun z => by subst z; rw [za] at e; cases e
  rw [upd_ne this]; exact s.fz b u e n, fun b m e => tabS_upd (s.tb b m e) hn⟩, s.tm⟩
theorem SubM.zn {p : Addr} (s : SubM K Z H) (np : H p = none) : Z p = none := by
  cases e : Z p with
  | none => rfl
  | some o => obtain ⟨u, q⟩ := s.some e; rw [np] at q; cases q
theorem New.o1 {p : Addr} {o : HO} {k : Kd} {vs : List V} {ds : List D} {d : D} (s : SubM K Z H) (np : H p = none) (hv : oview o = some (k, vs)) (hd : dview K d = some (k, ds)) (hs : FReps K Z vs ds) : New K Z H Z (upd H p o) (.ref p) (.ow .o1 d) [p] := by
  refine ⟨⟨fun a u e _ => by rw [upd_ne (ne_of_none e np)]; exact .inl e, fun a m => .inr (by simp at m; subst m; exact np), Le.refl _, fun _ _ e => .inl e⟩, s.upd np, ⟨.ref p, rfl, .inr ⟨p, o, k, vs, ds, rfl, upd_same, hv, hd, hs, rfl⟩⟩, by simp, fun a m => ?_⟩
  simp at m; subst m; exact s.zn np
/-- a new object that is frozen at once -/
theorem New.fzo {p : Addr} {o : HO} {k : Kd} {vs : List V} {ds : List D} {d : D} (s : SubM K Z H) (np : H p = none) (hv : oview o = some (k, vs)) (hd : dview K d = some (k, ds)) (hs : FReps K Z vs ds) : New K Z H (upd Z p o) (upd H p o) (.ref p) (.fz d) [] := by
  have le : Le Z (upd Z p o) := fun a u e => by rw [upd_ne (ne_of_none e (s.zn np))]; exact e
  refine ⟨⟨fun a u e _ => by rw [upd_ne (ne_of_none e np)]; exact .inl e, fun a m => (by cases m), le, fun a u e => ?_⟩, ⟨⟨fun a u e n => ?_, fun a m e => ?_⟩, s.tm.mono le⟩, ⟨.ref p, rfl, .node upd_same hv hd (hs.mono le), rfl⟩, by simp, fun a m => by cases m⟩
  · by_cases q : a = p
    · subst q; exact .inr (.inr np)
    · rw [upd_ne q] at e; exact .inl e
  · by_cases q : a = p
    · subst q; rw [upd_same] at e; cases e; exact .inl upd_same
    · rw [upd_ne q] at e
      rw [upd_ne q]
      exact s.fz a u e n
  · by_cases q : a = p
    · subst q; rw [upd_same] at e; cases e; exact absurd trivial (oview_nt hv)
    · rw [upd_ne q] at e
      exact tabZ_mono (tabS_new (s.tb a m e) np) le
end
def Op1 (K : PySem.W.Frag) (r : V → Hp → VK → Prop) (op : Tg → D → Option Sl) : Prop := ∀ {Z H : Hp} {t : Tg} {d : D} {v : V} {fp : List Addr} {res : Sl} {Q : VK}, SubM K Z H → Rep K Z H t v d fp → op t d = some res → (∀ Z' H' u fu, New K Z H Z' H' u res fu → Q u H') → r v H Q
def Op2 (K : PySem.W.Frag) (r : R2) (op : Tg → D → Tg → D → Option Sl) : Prop := ∀ {Z H : Hp} {t u : Tg} {d e : D} {v w : V} {fp fq : List Addr} {res : Sl} {Q : VK}, SubM K Z H → Rep K Z H t v d fp → Rep K Z H u w e fq → op t d u e = some res → (∀ Z' H' z fz, New K Z H Z' H' z res fz → Q z H') → r v w H Q
def AllRep (K : PySem.W.Frag) (Z H : Hp) : List V → List (Tg × D) → Prop := Paired fun v x => ∃ fp, Rep K Z H x.1 v x.2 fp
def OpN (K : PySem.W.Frag) (r : List V → Hp → VK → Prop) (op : List (Tg × D) → Option Sl) : Prop := ∀ {Z H : Hp} {vs : List V} {xs : List (Tg × D)} {res : Sl} {Q : VK}, SubM K Z H → AllRep K Z H vs xs → op xs = some res → (∀ Z' H' z fz, New K Z H Z' H' z res fz → Q z H') → r vs H Q
def k1 (op : Tg → D → Option Sl) (a : Sl) (ss : List Sl) : Ro (Sl × List Sl) := orS ((a.val ss).bind fun x => op x.1 x.2) ss
def k2 (op : Tg → D → Tg → D → Option Sl) (a b : Sl) (ss : List Sl) : Ro (Sl × List Sl) := orS ((a.val ss).bind fun x => (b.val ss).bind fun y => op x.1 x.2 y.1 y.2) ss
def kN (op : List (Tg × D) → Option Sl) (rs : List Sl) (ss : List Sl) : Ro (Sl × List Sl) := orS ((valL ss rs).bind op) ss
def f1 (op : Tg → D → Option Sl) (fa : FE) : FE := fun ss => (fa ss).bind fun p => k1 op p.1 p.2
def f2 (op : Tg → D → Tg → D → Option Sl) (fa fb : FE) : FE := fun ss => (fa ss).bind fun p => (fb p.2).bind fun q => k2 op p.1 q.1 q.2
def fN (op : List (Tg × D) → Option Sl) (fa : FA) : FE := fun ss => (fa ss).bind fun p => kN op p.1 p.2
section
variable {K : PySem.W.Frag} {E : EW} {σ : L2.St} {Z H Z' H' Z1 H1 Z2 H2 : Hp} {es es1 ts us : List Ent} {Q : VK} {fa fb : FE}
theorem Kon.some {o : Option Sl} {ss : List Sl} {F : List Addr} (k : KQ K E σ Z H F (orS o ss) Q) : ∃ r, o = some r ∧ KQ K E σ Z H F (.ok (r, ss)) Q := by
  cases o with
  | none => exact k.elim
  | some r => exact ⟨r, rfl, k⟩
theorem ref1 {r : V → Hp → VK → Prop} {op : Tg → D → Option Sl} (h : Op1 K r op) (q : RE K E (f1 op fa) σ H Q) : RE K E fa σ H fun x H1 => r x H1 Q := by
  obtain ⟨Z, es, s, hv, k⟩ := q
  refine RE.next (ts := []) (n := fun p => k1 op p.1 p.2) s hv (by rw [List.append_nil]; exact k) fun a Z1 H1 es1 v fp s1 hv1 k1 => ?_
  obtain ⟨r, hr, k2⟩ := Kon.some k1
  obtain ⟨⟨t, d⟩, h1, h2⟩ := Option.bind_eq_some_iff.mp hr
  obtain ⟨f, rp, _⟩ := s1.val (e := ⟨some v, a, fp⟩) (by simp) rfl h1
  exact h s1.sub rp h2 fun Z' H' u fu n => fin_new s1 hv1 k2 n
theorem ref2 {r : R2} {op : Tg → D → Tg → D → Option Sl} (h : Op2 K r op) (q : RE K E (f2 op fa fb) σ H Q) : RE K E fa σ H fun x H1 => RE K E fb σ H1 fun y H2 => r x y H2 Q := by
  obtain ⟨Z, es, s, hv, k⟩ := q
  refine RE.next (ts := []) (n := fun p => (fb p.2).bind fun q => k2 op p.1 q.1 q.2) s hv (by rw [List.append_nil]; exact k) fun a Z1 H1 es1 v fp s1 hv1 k1 => ?_
  refine RE.next (n := fun q => k2 op a q.1 q.2) s1 hv1 k1 fun b Z2 H2 es2 w fq s2 hv2 k2 => ?_
  obtain ⟨r, hr, k3⟩ := Kon.some k2
  obtain ⟨⟨t, d⟩, h1, h2⟩ := Option.bind_eq_some_iff.mp hr
  obtain ⟨⟨u, e⟩, h3, h4⟩ := Option.bind_eq_some_iff.mp h2
  obtain ⟨f, rp, _⟩ := s2.val (e := ⟨some v, a, fp⟩) (by simp) rfl h1
  obtain ⟨f', rp', _⟩ := s2.val (e := ⟨some w, b, fq⟩) (by simp) rfl h3
  exact h s2.sub rp rp' h4 fun Z' H' u fu n => fin_new s2 hv2 k3 n
theorem Sat.vals (s : Sat K Z H es ts) : ∀ {us : List Ent} {vs : List V} {xs : List (Tg × D)}, (∀ u ∈ us, u ∈ es ++ ts) → vsOf us = vs.map some → valL (ssOf es) (ssOf us) = some xs → AllRep K Z H vs xs
  | [], vs, xs, _, e, h => by
    cases vs with
    | nil => cases h; exact .nil
    | cons _ _ => cases e
  | u :: us, vs, xs, m, e, h => by
    cases vs with
    | nil => cases e
    | cons v vs =>
      simp only [List.map_cons, List.cons.injEq] at e
      obtain ⟨⟨t, d⟩, h1, h2⟩ := Option.bind_eq_some_iff.mp h
      obtain ⟨ys, h3, h4⟩ := Option.bind_eq_some_iff.mp h2
      cases h4
      obtain ⟨f, rp, _⟩ := s.val (m u List.mem_cons_self) e.1 h1
      exact .cons ⟨f, rp⟩ (Sat.vals s (fun z mz => m z (List.mem_cons_of_mem _ mz)) e.2 h3)
theorem refN {r : List V → Hp → VK → Prop} {op : List (Tg × D) → Option Sl} {ft : FA} (h : OpN K r op) (q : RE K E (fN op ft) σ H Q) : RA K E ft σ H fun xs H1 => r xs H1 Q := by
  obtain ⟨Z, es, s, hv, k⟩ := q
  refine RA.next (ts := []) (n := fun p => kN op p.1 p.2) s hv (by rw [List.append_nil]; exact k) fun Z1 H1 es1 us vs e1 s1 hv1 k1 => ?_
  obtain ⟨r, hr, k2⟩ := Kon.some k1
  obtain ⟨xs, h1, h2⟩ := Option.bind_eq_some_iff.mp hr
  exact h s1.sub (s1.vals (fun u m => by simp [m]) e1 h1) h2 fun Z' H' u fu n => fin_new s1 hv1 k2 n
end
section
variable {X : Cx} {E : EW} {e : Expr}
theorem pe_mono {t t' : TE} (p : PE X e t) (h : ∀ σ H Q, t' σ H Q → t σ H Q) : PE X e t' := ⟨fun pins s σ H Q I q => p.run pins s σ H Q I (h σ H Q q)⟩
theorem pt_mono {t t' : TT} (p : PT X e t) (h : ∀ σ H Q, t' σ H Q → t σ H Q) : PT X e t' := ⟨fun pins s σ H Q I q => p.run pins s σ H Q I (h σ H Q q)⟩
theorem pa_mono {es : List Expr} {t t' : TA} (p : PA X es t) (h : ∀ σ H Q, t' σ H Q → t σ H Q) : PA X es t' := ⟨fun pos pins s σ H Q I q => p.run pos pins s σ H Q I (h σ H Q q)⟩
theorem ps_mono {st : Stmt} {t t' : TS} (p : PS X st t) (h : ∀ D σ H, t' D σ H → t D σ H) : PS X st t' := ⟨fun pins s σ H D I q => p.run pins s σ H D I (h D σ H q)⟩
theorem pss_mono {st : List Stmt} {t t' : TS} (p : PSs X st t) (h : ∀ D σ H, t' D σ H → t D σ H) : PSs X st t' := ⟨fun pins s σ H D I q => p.run pins s σ H D I (h D σ H q)⟩
/-- a name -/
def fvar (i : Nat) : FE := fun ss => match ss[i]? with
  | some (.fz d) => .ok (.fz d, ss)
  | some (.ow _ _) => .ok (.al i, ss)
  | some (.al j) => .ok (.al j, ss)
  | _ => .stuck
theorem vs_at {es : List Ent} {σ : L2.St} {i : Nat} {u : Ent} {x : V} (hv : vsOf es = σ) (h : es[i]? = some u) (e : u.v = some x) : σ[i]? = some (some x) := by
  rw [← hv, List.getElem?_map, h, ← e]; rfl
/-- the end with a value that stands already -/
theorem fin_same {K : PySem.W.Frag} {σ : L2.St} {Z H : Hp} {es ts : List Ent} {Q : VK} {v : V} {r : Sl} (s : Sat K Z H es ts) (hv : vsOf es = σ) (k : KQ K E σ Z H (fpsOf (es ++ ts)) (.ok (r, ssOf es)) Q) (ok : EntOk K Z H es ⟨some v, r, []⟩) : Q v H := by
  refine k Z H es [⟨some v, r, []⟩] (Step.refl fun a m => ?_) ⟨s.sub, ?_, fun a m => ?_, fun e m => ?_⟩ hv rfl rfl v rfl
  · rcases fps_app.mp m with q | q
    · exact fps_app.mpr (.inl q)
    · simp at q
  · have := s.nd
    simp only [fpsOf, List.flatMap_append] at this ⊢
    simpa using (List.nodup_append.mp this).1
  · rcases fps_app.mp m with q | q
    · exact s.zf a (fps_app.mpr (.inl q))
    · simp at q
  · rcases List.mem_append.mp m with q | q
    · exact s.ok e (List.mem_append_left _ q)
    · obtain rfl := List.mem_singleton.mp q; exact ok
theorem fin0 {K : PySem.W.Frag} {σ : L2.St} {Z H : Hp} {es : List Ent} {Q : VK} {v : V} {r : Sl} (s : Sat K Z H es []) (hv : vsOf es = σ) (k : KQ K E σ Z H (fpsOf es) (.ok (r, ssOf es)) Q) (ok : EntOk K Z H es ⟨some v, r, []⟩) : Q v H :=
  fin_same s hv (by rw [List.append_nil]; exact k) ok
theorem re_var {K : PySem.W.Frag} {i : Nat} {σ : L2.St} {H : Hp} {Q : VK} (h : RE K E (fvar i) σ H Q) : tVar i σ H Q := by
  obtain ⟨Z, es, s, hv, k⟩ := h
  have go : ∀ u, es[i]? = some u → fvar i (ssOf es) = (match u.s with | .fz d => .ok (.fz d, ssOf es) | .ow _ _ => .ok (.al i, ssOf es) | .al j => .ok (.al j, ssOf es) | _ => .stuck) := fun u hu => by
    unfold fvar
    rw [show (ssOf es)[i]? = some u.s by rw [List.getElem?_map, hu]; rfl]
    cases u.s <;> rfl
  cases hu : es[i]? with
  | none =>
    unfold fvar at k
    rw [show (ssOf es)[i]? = none by rw [List.getElem?_map, hu]; rfl] at k
    exact k.elim
  | some u =>
    have ok := s.ok u (by rw [List.append_nil]; exact List.mem_of_getElem? hu)
    rw [go u hu] at k
    unfold EntOk at ok
    cases q : u.s with
    | un => rw [q] at k; exact k.elim
    | fz d =>
      rw [q] at k ok
      obtain ⟨x, h1, h2, h3⟩ := ok
      exact ⟨x, vs_at hv hu h1, fin0 (r := .fz d) s hv k ⟨x, rfl, h2, rfl⟩⟩
    | ow t d =>
      rw [q] at k ok
      obtain ⟨x, h1, h2⟩ := ok
      exact ⟨x, vs_at hv hu h1, fin0 (r := .al i) s hv k ⟨rfl, u, x, hu, h1, rfl⟩⟩
    | al j =>
      rw [q] at k ok
      obtain ⟨h0, w, x, h1, h2, h3⟩ := ok
      exact ⟨x, vs_at hv hu h3, fin0 (r := .al j) s hv k ⟨rfl, w, x, h1, h2, rfl⟩⟩
def fc (d : D) : FE := fun ss => .ok (.fz d, ss)
theorem re_c {K : PySem.W.Frag} {v : V} {d : D} {σ : L2.St} {H : Hp} {Q : VK} (l : Leaf K v d) (h : RE K E (fc d) σ H Q) : tC v σ H Q := by
  obtain ⟨Z, es, s, hv, k⟩ := h
  exact fin0 (r := .fz d) s hv k ⟨v, rfl, .leaf l, rfl⟩
def fnil : FA := fun ss => .ok ([], ss)
def fcons (fa : FE) (ft : FA) : FA := fun ss => (fa ss).bind fun p => (ft p.2).bind fun q => .ok (p.1 :: q.1, q.2)
theorem ra_nil {K : PySem.W.Frag} {σ : L2.St} {H : Hp} {Q : List V → Hp → Prop} (h : RA K E fnil σ H Q) : tNil σ H Q := by
  obtain ⟨Z, es, s, hv, k⟩ := h
  exact k Z H es [] (Step.refl fun a m => by simpa using m) s hv rfl rfl [] rfl
theorem ra_cons {K : PySem.W.Frag} {σ : L2.St} {H : Hp} {Q : List V → Hp → Prop} {fa : FE} {ft : FA} (h : RA K E (fcons fa ft) σ H Q) : tCons (RE K E fa) (RA K E ft) σ H Q := by
  obtain ⟨Z, es, s, hv, k⟩ := h
  refine RE.next (ts := []) (n := fun p => (ft p.2).bind fun q => .ok (p.1 :: q.1, q.2)) s hv (by rw [List.append_nil]; exact k) fun a Z1 H1 es1 v fp s1 hv1 k1 => ?_
  refine RA.next (n := fun q => .ok (a :: q.1, q.2)) s1 hv1 k1 fun Z2 H2 es2 us vs e2 s2 hv2 k2 => ?_
  exact k2 Z2 H2 es2 (⟨some v, a, fp⟩ :: us) (Step.refl fun a m => by simpa using m) (by simpa using s2) hv2 rfl rfl (v :: vs) (by simp [vsOf] at e2 ⊢; exact e2)
end
end Mi
namespace Mi
open PySem PySem.Spec PyProof.Rows L2 Rt
def scalarD : D → Bool
  | .non | .bl _ | .int _ | .str _ | .ty _ | .obj _ => true
  | _ => false
/-- a part that is handed on -/
def partSl (t : Tg) (d : D) : Option Sl := if t.flat then some (.fz d) else if scalarD d then some (.fz d) else none
section
variable {κ α : Type} [DecidableEq κ]
def getK (kvs : List (κ × α)) (k : κ) : Option α := (kvs.find? fun kv => decide (kv.1 = k)).map (·.2)
def putD (kvs : List (κ × α)) (k : κ) (v : α) : List (κ × α) := if (kvs.any fun kv => decide (kv.1 = k)) = true then kvs.map (fun kv => if kv.1 = k then (kv.1, v) else kv) else kvs ++ [(k, v)]
end
def D.key? : D → Option Key
  | .int i => some (.inl i)
  | .str x => some (.inr x)
  | _ => none
section
variable {K : PySem.W.Frag} {Z H Z' H' : Hp} {t u : Tg} {v w : V} {fp fq : List Addr} {d e : D} {Q : VK}
theorem rep_int {i : Int} (s : SubM K Z H) (h : Rep K Z H t v (.int i) fp) : v = .int i := by cases h.leaf_of s rfl; rfl
theorem rep_str {x : Str} (s : SubM K Z H) (h : Rep K Z H t v (.str x) fp) : v = .str x := by cases h.leaf_of s rfl; rfl
theorem rep_bl {b : Bool} (s : SubM K Z H) (h : Rep K Z H t v (.bl b) fp) : v = .bl b := by cases h.leaf_of s rfl; rfl
theorem rep_non (s : SubM K Z H) (h : Rep K Z H t v .non fp) : v = .non := by cases h.leaf_of s rfl; rfl
theorem at_of {a : Addr} {o : HO} (s : SubM K Z H) (n : ¬ lockable o) (h : Z a = some o ∨ H a = some o) (nt : ¬ isTbl o := by intro z; exact z) : H a = some o := by
  rcases h with h | h
  · rcases s.fz _ _ h nt with z | ⟨z, _⟩
    · exact z
    · exact (n z).elim
  · exact h
theorem rd_of {a : Addr} {o : HO} (s : SubM K Z H) (h : Z a = some o ∨ H a = some o) (nt : ¬ isTbl o := by intro z; exact z) : Rd H a o := h.elim (fun h => s.rd h nt) .inl
theorem rep_lst {ds : List D} (ht : t.flat = true) (s : SubM K Z H) (h : Rep K Z H t v (.lst ds) fp) : ∃ a vs, v = .ref a ∧ H a = some (.lst vs) ∧ FReps K Z vs ds := by
  obtain ⟨_, _, _, a, vs, h1, h2, h3⟩ := h.flat ht s rfl
  refine ⟨a, vs, h1, ?_, h2⟩
  rcases h3 with ⟨o, h3, h4⟩ | q
  · rw [oview_lst h4] at h3; exact at_of s (fun z => z) h3
  · exact q.elim
theorem rep_tup {ds : List D} (ht : t.flat = true) (s : SubM K Z H) (h : Rep K Z H t v (.tup ds) fp) : ∃ a vs, v = .ref a ∧ SqT K H a vs ∧ FReps K Z vs ds := by
  obtain ⟨_, _, _, a, vs, h1, h2, h3⟩ := h.flat ht s rfl
  refine ⟨a, vs, h1, ?_, h2⟩
  rcases h3 with ⟨o, h3, h4⟩ | q
  · rw [oview_tup h4] at h3; exact .inl (rd_of s h3)
  · exact sqT_wr s.toSub q
theorem rep_dk {kvs : List (Key × D)} (ht : t.flat = true) (s : SubM K Z H) (h : Rep K Z H t v (.dk kvs) fp) : ∃ a gs, v = .ref a ∧ Rd H a (.dK gs) ∧ gs.map (·.1) = kvs.map (·.1) ∧ FReps K Z (gs.map (·.2)) (kvs.map (·.2)) := by
  obtain ⟨_, _, _, a, vs, h1, h2, h3⟩ := h.flat ht s rfl
  rcases h3 with ⟨o, h3, h4⟩ | q
  · obtain ⟨gs, rfl, e1, rfl⟩ := oview_dk h4
    exact ⟨a, gs, h1, rd_of s h3, e1, h2⟩
  · exact q.elim
theorem rep_ins {c : Str} {fs : List (Str × D)} (ht : t.flat = true) (s : SubM K Z H) (h : Rep K Z H t v (.ins c fs) fp) : ∃ a dx gs, v = .ref a ∧ H a = some (.ins (He.ga K c) dx gs) ∧ gs.map (·.1) = fs.map (·.1) ∧ FReps K Z (gs.map (·.2)) (fs.map (·.2)) := by
  obtain ⟨_, _, _, a, vs, h1, h2, h3⟩ := h.flat ht s rfl
  rcases h3 with ⟨o, h3, h4⟩ | q
  · obtain ⟨dx, gs, rfl, e1, rfl⟩ := oview_ins h4
    exact ⟨a, dx, gs, h1, at_of s (fun z => z) h3, e1, h2⟩
  · exact q.elim
/-- of whatever is owned: what can be read of it -/
theorem rep_lstR {ds : List D} (s : SubM K Z H) (h : Rep K Z H t v (.lst ds) fp) : ∃ a vs, v = .ref a ∧ H a = some (.lst vs) ∧ FReps K (rdH H) vs ds := FRep.lst_of rdH_sub (h.rd s)
theorem rep_tupR {ds : List D} (s : SubM K Z H) (h : Rep K Z H t v (.tup ds) fp) : ∃ a vs, v = .ref a ∧ SqT K H a vs ∧ FReps K (rdH H) vs ds := (h.rd s).tup_of
theorem rep_dkR {kvs : List (Key × D)} (s : SubM K Z H) (h : Rep K Z H t v (.dk kvs) fp) : ∃ a gs, v = .ref a ∧ Rd H a (.dK gs) ∧ gs.map (·.1) = kvs.map (·.1) ∧ FReps K (rdH H) (gs.map (·.2)) (kvs.map (·.2)) := FRep.dk_of rdH_sub (h.rd s)
theorem rep_insR {c : Str} {fs : List (Str × D)} (s : SubM K Z H) (h : Rep K Z H t v (.ins c fs) fp) : ∃ a dx gs, v = .ref a ∧ H a = some (.ins (He.ga K c) dx gs) ∧ gs.map (·.1) = fs.map (·.1) ∧ FReps K (rdH H) (gs.map (·.2)) (fs.map (·.2)) := FRep.ins_of rdH_sub (h.rd s)
theorem rep_scr {xs : List Int} (s : SubM K Z H) (h : Rep K Z H t v (.scr xs) fp) : ∃ a, v = .ref a ∧ SqL K H a (xs.map V.int) := FRep.scr_of rdH_sub (h.rd s)
theorem leaf_scalar {d : D} (h : scalarD d = true) : dview K d = none := by cases d <;> first | rfl | cases h
end
section
variable {K : PySem.W.Frag}
theorem nl {Z H : Hp} {Q : VK} {v : V} {d : D} (s : SubM K Z H) (k : ∀ Z' H' u fu, New K Z H Z' H' u (.fz d) fu → Q u H') (l : Leaf K v d) : Q v H := k Z H v [] (New.leaf s l)
def opI (f : Int → Int → Option D) (_ : Tg) (x : D) (_ : Tg) (y : D) : Option Sl := match x, y with
  | .int a, .int b => (f a b).map .fz
  | _, _ => none
theorem opI_of {f : Int → Int → Option D} {t u : Tg} {x y : D} {res : Sl} (h : opI f t x u y = some res) : ∃ a b d, x = .int a ∧ y = .int b ∧ f a b = some d ∧ res = .fz d := by
  unfold opI at h
  split at h
  · obtain ⟨d, h1, h2⟩ := Option.map_eq_some_iff.mp h
    exact ⟨_, _, d, rfl, rfl, h1, h2.symm⟩
  · cases h
theorem op2_I {C : Int → Int → Prop} {f : Int → Int → Int} {g : Int → Int → Option D} (hg : ∀ a b d, g a b = some d → C a b ∧ d = .int (f a b)) : Op2 K (rI C fun i j => .int (f i j)) (opI g) := by
  intro Z H t u x y v w fp fq res Q s h1 h2 h k
  obtain ⟨a, b, d, rfl, rfl, e, rfl⟩ := opI_of h
  obtain ⟨c, rfl⟩ := hg a b d e
  rw [rep_int s h1, rep_int s h2]
  exact ⟨a, b, rfl, rfl, c, nl s k (.int _)⟩
theorem op2_I0 {f : Int → Int → Int} : Op2 K (rI0 fun i j => .int (f i j)) (opI fun a b => some (.int (f a b))) := by
  intro Z H t u x y v w fp fq res Q s h1 h2 h k
  obtain ⟨a, b, d, rfl, rfl, e, rfl⟩ := opI_of h
  cases e
  rw [rep_int s h1, rep_int s h2]
  exact ⟨a, b, rfl, rfl, nl s k (.int _)⟩
theorem op2_B0 {f : Int → Int → Bool} : Op2 K (rI0 fun i j => .bl (f i j)) (opI fun a b => some (.bl (f a b))) := by
  intro Z H t u x y v w fp fq res Q s h1 h2 h k
  obtain ⟨a, b, d, rfl, rfl, e, rfl⟩ := opI_of h
  cases e
  rw [rep_int s h1, rep_int s h2]
  exact ⟨a, b, rfl, rfl, nl s k (.bl _)⟩
def opSub := opI fun a b => some (.int (a - b))
theorem op_sub_ok : Op2 K rSubI opSub := op2_I0
instance {i j : Int} : Decidable (CMulW i j) := inferInstanceAs (Decidable (_ < _))
instance {i j : Int} : Decidable (CDivZ i j) := inferInstanceAs (Decidable (_ ∧ _))
instance {i j : Int} : Decidable (CPow i j) := inferInstanceAs (Decidable (_ ∧ _ ∧ _))
def whenD (p : Prop) [Decidable p] (d : D) : Option D := if p then some d else none
theorem whenD_of {p : Prop} [Decidable p] {d e : D} (h : whenD p d = some e) : p ∧ e = d := by
  unfold whenD at h
  split at h
  · rename_i q; exact ⟨q, (Option.some.inj h).symm⟩
  · cases h
theorem whenD_pos {p : Prop} [Decidable p] {d : D} (h : p) : whenD p d = some d := if_pos h
def opFdiv := opI fun a b => whenD (CDivZ a b) (.int (a.fdiv b))
theorem op_fdiv_ok : Op2 K rFdivZ opFdiv := op2_I fun _ _ _ h => whenD_of h
def opMod := opI fun a b => whenD (b ≠ 0) (.int (a.fmod b))
theorem op_mod_ok : Op2 K rModZ opMod := op2_I fun _ _ _ h => whenD_of h
def opPow := opI fun a b => whenD (CPow a b) (.int (a ^ b.toNat))
theorem op_pow_ok : Op2 K rPowI opPow := op2_I fun _ _ _ h => whenD_of h
def opLt := opI fun a b => some (.bl (decide (a < b)))
def opGt := opI fun a b => some (.bl (decide (b < a)))
def opGe := opI fun a b => some (.bl (decide (b ≤ a)))
theorem op_lt_ok : Op2 K rLtI opLt := op2_B0
theorem op_gt_ok : Op2 K rGtI opGt := op2_B0
theorem op_ge_ok : Op2 K rGeI opGe := op2_B0
def opAdd (t : Tg) (x : D) (u : Tg) (y : D) : Option Sl := match x, y with
  | .int a, .int b => some (.fz (.int (a + b)))
  | .str a, .str b => if a.length + b.length ≤ sizeLine then some (.fz (.str (a ++ b))) else none
  | .lst xs, .lst ys => if (t.flat && u.flat) = true ∧ xs.length + ys.length ≤ sizeLine then some (.ow .o1 (.lst (xs ++ ys))) else none
  | _, _ => none
theorem op_add_ok : Op2 K (rAddU K) opAdd := by
  intro Z H t u x y v w fp fq res Q s h1 h2 h k
  unfold opAdd at h
  split at h
  · cases h
    rw [rep_int s h1, rep_int s h2]
    exact .inl ⟨_, _, rfl, rfl, nl s k (.int _)⟩
  · split at h
    · rename_i hl
      cases h
      rw [rep_str s h1, rep_str s h2]
      exact .inr (.inl ⟨_, _, rfl, rfl, hl, nl s k (.str _)⟩)
    · cases h
  · split at h
    · rename_i hl
      cases h
      obtain ⟨hf, hl⟩ := hl
      rw [Bool.and_eq_true] at hf
      obtain ⟨a, vs, rfl, ha, hvs⟩ := rep_lst hf.1 s h1
      obtain ⟨b, ws, rfl, hb, hws⟩ := rep_lst hf.2 s h2
      refine .inr (.inr (.inl ⟨a, b, vs, ws, rfl, rfl, ha, hb, by rw [hvs.len, hws.len]; exact hl, fun p np => ?_⟩))
      exact k _ _ _ _ (New.o1 s np rfl rfl (hvs.app hws))
    · cases h
  · cases h
def opMul (t : Tg) (x : D) (_ : Tg) (y : D) : Option Sl := match x, y with
  | .int a, .int b => if CMulW a b then some (.fz (.int (a * b))) else none
  | .lst xs, .int k => if t.flat = true ∧ (-(2 ^ 63) ≤ k ∧ k < 2 ^ 63) ∧ xs.length * k.toNat ≤ sizeLine then some (.ow .o1 (.lst (List.replicate k.toNat xs).flatten)) else none
  | _, _ => none
theorem FReps.repl {Z : Hp} {vs : List V} {ds : List D} (h : FReps K Z vs ds) : ∀ n : Nat, FReps K Z (List.replicate n vs).flatten (List.replicate n ds).flatten
  | 0 => .nil
  | n + 1 => by rw [List.replicate_succ, List.replicate_succ, List.flatten_cons, List.flatten_cons]; exact h.app (FReps.repl h n)
theorem op_mul_ok : Op2 K rMulU opMul := by
  intro Z H t u x y v w fp fq res Q s h1 h2 h k
  unfold opMul at h
  split at h
  · split at h
    · rename_i hc
      cases h
      rw [rep_int s h1, rep_int s h2]
      exact .inl ⟨_, _, rfl, rfl, hc, nl s k (.int _)⟩
    · cases h
  · split at h
    · rename_i hl
      cases h
      obtain ⟨hf, ⟨hl1, hl2⟩, hl⟩ := hl
      obtain ⟨a, vs, rfl, ha, hvs⟩ := rep_lst hf s h1
      rw [rep_int s h2]
      refine .inr ⟨a, _, vs, rfl, rfl, ha, hl1, hl2, by rw [hvs.len]; exact hl, fun p np => ?_⟩
      exact k _ _ _ _ (New.o1 s np rfl rfl (hvs.repl _))
    · cases h
  · cases h
mutual
def toPD : D → Option PyData
  | .non => some .none
  | .bl b => some (.bool b)
  | .int i => some (.int i)
  | .str x => some (.str x)
  | .lst xs => (toPDs xs).map .list
  | .tup xs => (toPDs xs).map .tuple
  | .tpx xs => (toPDs xs).map .tuple
  | .tpk xs => (toPDs xs).map .tuple
  | _ => none
def toPDs : List D → Option (List PyData)
  | [] => some []
  | d :: r => (toPD d).bind fun p => (toPDs r).bind fun ps => some (p :: ps)
end
mutual
theorem dp_of {H : Hp} : ∀ {d : D} {p : PyData} {v : V}, FRep K (rdH H) v d → toPD d = some p → Dp K H v p
  | .non, _, _, h, e => by cases e; cases h.leaf_of (d := .non) rfl; exact .non
  | .bl b, _, _, h, e => by cases e; cases h.leaf_of (d := .bl b) rfl; exact .bl _
  | .int i, _, _, h, e => by cases e; cases h.leaf_of (d := .int i) rfl; exact .int _
  | .str x, _, _, h, e => by cases e; cases h.leaf_of (d := .str x) rfl; exact .str _
  | .lst xs, _, _, h, e => by
    obtain ⟨ps, e1, rfl⟩ := Option.map_eq_some_iff.mp e
    obtain ⟨a, vs, rfl, ha, hs⟩ := FRep.lst_of rdH_sub h
    exact .lst (.of ha) (dps_of hs e1)
  | .tup xs, _, _, h, e => by
    obtain ⟨ps, e1, rfl⟩ := Option.map_eq_some_iff.mp e
    obtain ⟨a, vs, rfl, ha, hs⟩ := h.tup_of
    exact .tup ha (dps_of hs e1)
  | .tpx xs, _, _, h, e => by
    obtain ⟨ps, e1, rfl⟩ := Option.map_eq_some_iff.mp e
    obtain ⟨a, vs, h1, hs, h3⟩ := h.node_of (k := .tpx) (ds := xs) rfl
    subst h1
    rcases h3 with ⟨o, _, h4⟩ | q
    · exact (oview_tpx h4).elim
    · exact .tup (sqT_wr rdH_sub (.inr q)) (dps_of hs e1)
  | .tpk xs, _, _, h, e => by
    obtain ⟨ps, e1, rfl⟩ := Option.map_eq_some_iff.mp e
    obtain ⟨a, vs, h1, hs, h3⟩ := h.node_of (k := .tpk) (ds := xs) rfl
    subst h1
    rcases h3 with ⟨o, _, h4⟩ | q
    · exact (oview_tpk h4).elim
    · exact .tup (.inl (rdH_sub.rd q id)) (dps_of hs e1)
  | .ty _, _, _, _, e => by cases e
  | .obj _, _, _, _, e => by cases e
  | .dk _, _, _, _, e => by cases e
  | .dt _, _, _, _, e => by cases e
  | .ins _ _, _, _, _, e => by cases e
  | .scr _, _, _, _, e => by cases e
theorem dps_of {H : Hp} : ∀ {ds : List D} {ps : List PyData} {vs : List V}, FReps K (rdH H) vs ds → toPDs ds = some ps → DpAll K H vs ps
  | [], _, _, .nil, e => by cases e; exact .nil
  | d :: r, _, _, .cons h t, e => by
    obtain ⟨p, e1, e2⟩ := Option.bind_eq_some_iff.mp e
    obtain ⟨ps, e3, e4⟩ := Option.bind_eq_some_iff.mp e2
    cases e4
    exact .cons (dp_of h e1) (dps_of t e3)
end
def eqD (x y : D) : Option Bool := match x, y with
  | .int a, .int b => some (decide (a = b))
  | .str a, .str b => some (decide (a = b))
  | x, y => (toPD x).bind fun a => (toPD y).bind fun b => if (SeqAt.shaped a && SeqAt.shaped b) = true then some (PyData.eqv a b) else none
def opEq (_ : Tg) (x : D) (_ : Tg) (y : D) : Option Sl := (eqD x y).map fun b => .fz (.bl b)
def opNe (_ : Tg) (x : D) (_ : Tg) (y : D) : Option Sl := (eqD x y).map fun b => .fz (.bl (!b))
theorem eqD_of {x y : D} {b : Bool} (h : eqD x y = some b) : (∃ i j, x = .int i ∧ y = .int j ∧ b = decide (i = j)) ∨ (∃ i j, x = .str i ∧ y = .str j ∧ b = decide (i = j)) ∨
    ∃ p q, toPD x = some p ∧ toPD y = some q ∧ SeqAt.shaped p = true ∧ SeqAt.shaped q = true ∧ b = PyData.eqv p q := by
  unfold eqD at h
  split at h
  · exact .inl ⟨_, _, rfl, rfl, (Option.some.inj h).symm⟩
  · exact .inr (.inl ⟨_, _, rfl, rfl, (Option.some.inj h).symm⟩)
  · obtain ⟨p, e1, e2⟩ := Option.bind_eq_some_iff.mp h
    obtain ⟨q, e3, e4⟩ := Option.bind_eq_some_iff.mp e2
    split at e4
    · rename_i hs
      rw [Bool.and_eq_true] at hs
      exact .inr (.inr ⟨p, q, e1, e3, hs.1, hs.2, (Option.some.inj e4).symm⟩)
    · cases e4
theorem op_eq_ok : Op2 K (rEqU K) opEq := by
  intro Z H t u x y v w fp fq res Q s h1 h2 h k
  obtain ⟨b, e, rfl⟩ := Option.map_eq_some_iff.mp h
  have kk := nl s k (.bl b)
  rcases eqD_of e with ⟨i, j, rfl, rfl, rfl⟩ | ⟨i, j, rfl, rfl, rfl⟩ | ⟨p, q, e1, e2, s1, s2, rfl⟩
  · rw [rep_int s h1, rep_int s h2]
    exact .inl ⟨rfl, by rw [dI]; exact kk⟩
  · rw [rep_str s h1, rep_str s h2]
    exact .inl ⟨rfl, by rw [dS]; exact kk⟩
  · exact .inr ⟨p, q, dp_of (h1.rd s) e1, dp_of (h2.rd s) e2, s1, s2, kk⟩
theorem op_ne_ok : Op2 K (rNeU K) opNe := by
  intro Z H t u x y v w fp fq res Q s h1 h2 h k
  obtain ⟨b, e, rfl⟩ := Option.map_eq_some_iff.mp h
  have kk := nl s k (.bl (!b))
  rcases eqD_of e with ⟨i, j, rfl, rfl, rfl⟩ | ⟨i, j, rfl, rfl, rfl⟩ | ⟨p, q, e1, e2, s1, s2, rfl⟩
  · rw [rep_int s h1, rep_int s h2]
    exact .inl ⟨rfl, by rw [dI]; exact kk⟩
  · rw [rep_str s h1, rep_str s h2]
    exact .inl ⟨rfl, by rw [dS]; exact kk⟩
  · exact .inr ⟨p, q, dp_of (h1.rd s) e1, dp_of (h2.rd s) e2, s1, s2, kk⟩
def isNonD : D → Bool
  | .non => true
  | _ => false
def opIs (_ : Tg) (x : D) (_ : Tg) (y : D) : Option Sl := match y with
  | .non => some (.fz (.bl (isNonD x)))
  | _ => none
theorem non_of {H : Hp} {v : V} {d : D} (h : FRep K H v d) : decide (v = .non) = isNonD d := by
  cases h with
  | leaf l => cases l <;> rfl
  | node _ _ h3 _ => cases d <;> first | rfl | cases h3
  | wr _ h3 _ => cases d <;> first | rfl | cases h3
theorem op_is_ok : Op2 K rIsN0 opIs := by
  intro Z H t u x y v w fp fq res Q s h1 h2 h k
  unfold opIs at h
  split at h
  · cases h
    exact ⟨rep_non s h2, by rw [non_of (h1.rd s)]; exact nl s k (.bl _)⟩
  · cases h
theorem part_of {Z H : Hp} {Q : VK} {t : Tg} {d : D} {v : V} {res : Sl} (s : SubM K Z H) (h : partSl t d = some res) (h1 : t.flat = true → FRep K Z v d) (h2 : FRep K (rdH H) v d) (k : ∀ Z' H' u fu, New K Z H Z' H' u res fu → Q u H') : Q v H := by
  unfold partSl at h
  split at h
  · rename_i hf; cases h; exact k Z H v [] (New.fz s (h1 hf))
  · split at h
    · rename_i hs; cases h; exact k Z H v [] (New.leaf s (h2.leaf_of (leaf_scalar hs)))
    · cases h
theorem getK_rel {κ : Type} [DecidableEq κ] {Z : Hp} : ∀ {gs : List (κ × V)} {kvs : List (κ × D)} {k : κ}, gs.map (·.1) = kvs.map (·.1) → FReps K Z (gs.map (·.2)) (kvs.map (·.2)) →
    (valV gs k = none ∧ getK kvs k = none) ∨ ∃ v d, valV gs k = some v ∧ getK kvs k = some d ∧ FRep K Z v d
  | [], [], k, _, _ => .inl ⟨rfl, rfl⟩
  | (a, v) :: gs, (b, d) :: kvs, k, e, h => by
    simp only [List.map_cons, List.cons.injEq] at e h
    obtain ⟨rfl, e⟩ := e
    cases h with
    | cons r t =>
      by_cases q : a = k
      · exact .inr ⟨v, d, valV_pos q, by simp [getK, List.find?_cons, q], r⟩
      · rw [valV_neg (p := (a, v)) q, show getK ((a, d) :: kvs) k = getK kvs k by simp [getK, List.find?_cons, q]]
        exact getK_rel e t
  | [], _ :: _, _, e, _ => by cases e
  | _ :: _, [], _, e, _ => by cases e
theorem kV_of {Z H : Hp} {u : Tg} {w : V} {e : D} {fq : List Addr} {k : Key} (s : SubM K Z H) (h2 : Rep K Z H u w e fq) (h : e.key? = some k) : w = kV k := by
  cases e <;> cases h
  · exact rep_int s h2
  · exact rep_str s h2
def opIx (t : Tg) (x : D) (_ : Tg) (y : D) : Option Sl := match x, y with
  | .lst xs, .int i => (atI xs i).bind (partSl t)
  | .tup xs, .int i => (atI xs i).bind (partSl t)
  | .str z, .int i => if z.length ≤ sizeLine then (atI z.cps.toList i).map fun c => .fz (.str ⟨#[c]⟩) else none
  | .dk kvs, y => y.key?.bind fun k => (getK kvs k).bind (partSl t)
  | _, _ => none
theorem atI_rel {Z : Hp} {vs : List V} {ds : List D} {i : Int} {d : D} (h : FReps K Z vs ds) (e : atI ds i = some d) : ∃ v, atI vs i = some v ∧ FRep K Z v d := by
  unfold atI at e ⊢
  rw [h.len]
  obtain ⟨j, e1, e2⟩ := Option.bind_eq_some_iff.mp e
  obtain ⟨v, e3, e4⟩ := h.get e2
  exact ⟨v, by rw [e1]; exact e3, e4⟩
theorem op_ix_ok : Op2 K (rIxU K) opIx := by
  intro Z H t u x y v w fp fq res Q s h1 h2 h k
  unfold opIx at h
  split at h
  · obtain ⟨d, e1, e2⟩ := Option.bind_eq_some_iff.mp h
    obtain ⟨a, vs, rfl, ha, hs⟩ := rep_lstR s h1
    obtain ⟨x, e3, e4⟩ := atI_rel hs e1
    rw [rep_int s h2]
    refine .inl (.inl ⟨a, vs, _, x, rfl, rfl, .of ha, e3, part_of s e2 (fun hf => ?_) e4 k⟩)
    obtain ⟨b, ws, e5, hb, hw⟩ := rep_lst hf s h1
    cases e5; rw [ha] at hb; cases hb
    obtain ⟨y, e6, e7⟩ := atI_rel hw e1
    rw [e3] at e6; cases e6; exact e7
  · obtain ⟨d, e1, e2⟩ := Option.bind_eq_some_iff.mp h
    rw [rep_int s h2]
    by_cases hf : t.flat = true
    · obtain ⟨b, ws, rfl, hb, hw⟩ := rep_tup hf s h1
      obtain ⟨y, e6, e7⟩ := atI_rel hw e1
      exact .inl (.inr (.inl ⟨b, ws, _, y, rfl, rfl, hb, e6, part_of s e2 (fun _ => e7) (e7.rd s) k⟩))
    · obtain ⟨b, ws, rfl, hb, hw⟩ := rep_tupR s h1
      obtain ⟨y, e6, e7⟩ := atI_rel hw e1
      exact .inl (.inr (.inl ⟨b, ws, _, y, rfl, rfl, hb, e6, part_of s e2 (fun z => (hf z).elim) e7 k⟩))
  · split at h
    · rename_i hl
      obtain ⟨c, e1, rfl⟩ := Option.map_eq_some_iff.mp h
      rw [rep_str s h1, rep_int s h2]
      exact .inl (.inr (.inr ⟨_, _, c, rfl, rfl, hl, e1, nl s k (.str _)⟩))
    · cases h
  · obtain ⟨q, e1, e2⟩ := Option.bind_eq_some_iff.mp h
    obtain ⟨d, e3, e4⟩ := Option.bind_eq_some_iff.mp e2
    rw [kV_of s h2 e1]
    by_cases hf : t.flat = true
    · obtain ⟨a, gs, rfl, ha, hk, hs⟩ := rep_dk hf s h1
      rcases getK_rel (k := q) hk hs with ⟨_, z⟩ | ⟨x, d', e5, e6, e7⟩
      · rw [z] at e3; cases e3
      · rw [e3] at e6; cases e6
        exact .inr ⟨a, x, rfl, .inl ⟨gs, q, ha, rfl, e5.symm⟩, part_of s e4 (fun _ => e7) (e7.rd s) k⟩
    · obtain ⟨a, gs, rfl, ha, hk, hs⟩ := rep_dkR s h1
      rcases getK_rel (k := q) hk hs with ⟨_, z⟩ | ⟨x, d', e5, e6, e7⟩
      · rw [z] at e3; cases e3
      · rw [e3] at e6; cases e6
        exact .inr ⟨a, x, rfl, .inl ⟨gs, q, ha, rfl, e5.symm⟩, part_of s e4 (fun z => (hf z).elim) e7 k⟩
  · cases h
end
end Mi
namespace Mi
open PySem PySem.Spec PyProof.Rows L2 Rt
def Bt.of (n : String) : Option Bt := if n = "int" then some .int else if n = "bool" then some .bool else if n = "str" then some .str else if n = "tuple" then some .tuple else if n = "list" then some .list else if n = "dict" then some .dict else none
theorem Bt.of_name {n : String} {b : Bt} (h : Bt.of n = some b) : n = b.name := by
  unfold Bt.of at h
  repeat (split at h; · rename_i e; cases h; exact e)
  cases h
def Bt.isi (a b : Bt) : Bool := decide (a = b) || (decide (a = .bool) && decide (b = .int))
def kindD : D → Option (Bt ⊕ Str)
  | .non => some (.inl .non) | .bl _ => some (.inl .bool) | .int _ => some (.inl .int) | .str _ => some (.inl .str) | .tup _ => some (.inl .tuple)
  | .lst _ => some (.inl .list) | .scr _ => some (.inl .list) | .dk _ => some (.inl .dict)
  | .ins c _ => some (.inr c)
  | _ => none
theorem kitB_all : (Bt.all.all fun a => Bt.all.all fun b => decide (b = .non) || decide (kitB a.name b.name = some (a.isi b))) = true := by decide +kernel
theorem Bt.mem (a : Bt) : a ∈ Bt.all := by cases a <;> decide
theorem kitB_of (a b : Bt) (h : b ≠ .non) : kitB a.name b.name = some (a.isi b) := by
  have := List.all_eq_true.mp (List.all_eq_true.mp kitB_all a a.mem) b b.mem
  simpa [h] using this
/-- the facts of one's own classes -/
structure ClsOk (K : PySem.W.Frag) (cls : List Str) : Prop where
  ty : ∀ c ∈ cls, ∀ (H : Hp) (a dx : Addr) (fs : List (Str × V)), H a = some (.ins (He.ga K c) dx fs) → TyX K H (.ref a) (.ref (He.ga K c))
  bc : ∀ c ∈ cls, ∀ b ∈ Bt.all, PySem.W.kitOne K (.type b.name) (.ref (He.ga K c)) = some false
  cb : ∀ c ∈ cls, ∀ b ∈ Bt.all, b ≠ .non → PySem.W.kitOne K (.ref (He.ga K c)) (.type b.name) = some false
  cc : ∀ c ∈ cls, ∀ e ∈ cls, PySem.W.kitOne K (.ref (He.ga K c)) (.ref (He.ga K e)) = some (decide (c = e))
def isiOne (cls : List Str) : Bt ⊕ Str → D → Option Bool
  | .inl a, .ty n => (Bt.of n).map fun b => a.isi b
  | .inl _, .obj c => if c ∈ cls then some false else none
  | .inr c, .ty n => if c ∈ cls then (Bt.of n).map fun _ => false else none
  | .inr c, .obj e => if c ∈ cls ∧ e ∈ cls then some (decide (c = e)) else none
  | _, _ => none
def isiAny (cls : List Str) (k : Bt ⊕ Str) : List D → Option Bool
  | [] => some false
  | d :: r => (isiOne cls k d).bind fun b => (isiAny cls k r).bind fun c => some (b || c)
def kindV (K : PySem.W.Frag) : Bt ⊕ Str → Value
  | .inl b => .type b.name
  | .inr c => .ref (He.ga K c)
theorem of_ne {n : String} {b : Bt} (h : Bt.of n = some b) : b ≠ .non := by
  unfold Bt.of at h
  repeat (split at h; · cases h; intro z; cases z)
  cases h
section
variable {K : PySem.W.Frag} {cls : List Str} {Z H : Hp} {t : Tg} {v : V} {fp : List Addr} {d : D}
theorem kind_of (C : ClsOk K cls) {k : Bt ⊕ Str} (s : SubM K Z H) (h : Rep K Z H t v d fp) (e : kindD d = some k) (hc : ∀ c, k = .inr c → c ∈ cls) : TyX K H v (kindV K k) := by
  unfold kindD at e
  split at e <;> cases e
  · rw [rep_non s h]; exact .base .non
  · rw [rep_bl s h]; exact .base (.bl _)
  · rw [rep_int s h]; exact .base (.int _)
  · rw [rep_str s h]; exact .base (.str _)
  · obtain ⟨a, vs, rfl, q, _⟩ := rep_tupR s h
    rcases q with (q | ⟨o, q⟩) | ⟨o, its, n, h1, h2, _⟩
    · exact .base (.tup q)
    · exact .fTuple q
    · exact .kTuple h1 h2
  · obtain ⟨a, vs, rfl, q, _⟩ := rep_lstR s h
    exact .base (.lst q)
  · obtain ⟨a, rfl, q⟩ := rep_scr s h
    rcases q with (q | ⟨o, q⟩) | ⟨o, its, n, h1, h2, _⟩
    · exact .base (.lst q)
    · exact .base (.frz q)
    · exact .kList h1 h2
  · obtain ⟨a, gs, rfl, q, _⟩ := rep_dkR s h
    rcases q with q | ⟨o, q⟩
    · exact .base (.dK q)
    · exact .fDict q
  · rename_i c fs
    obtain ⟨a, dx, gs, rfl, q, _⟩ := rep_insR s h
    exact C.ty c (hc c rfl) _ _ _ _ q
theorem isiOne_of (C : ClsOk K cls) {k : Bt ⊕ Str} {e : D} {b : Bool} (h : isiOne cls k e = some b) : (∃ u w, (∀ x, FRep K (rdH H) x e → x = w ∧ ClsV w u) ∧ PySem.W.kitOne K (kindV K k) u = some b) ∧ ∀ c, k = .inr c → c ∈ cls := by
  unfold isiOne at h
  split at h
  · obtain ⟨b', e1, rfl⟩ := Option.map_eq_some_iff.mp h
    rename_i a n
    refine ⟨⟨.type n, .ty n, fun x q => ?_, ?_⟩, fun c z => by cases z⟩
    · cases q.leaf_of (d := .ty n) rfl; exact ⟨rfl, .ty n⟩
    · rw [Bt.of_name e1]; exact kit_ty (kitB_of a b' (of_ne e1))
  · split at h
    · rename_i hc; cases h
      rename_i a c
      refine ⟨⟨.ref (He.ga K c), .ref (He.ga K c), fun x q => ?_, C.bc c hc a a.mem⟩, fun c z => by cases z⟩
      cases q.leaf_of (d := .obj c) rfl; exact ⟨rfl, .own _⟩
    · cases h
  · split at h
    · rename_i hc
      obtain ⟨b', e1, rfl⟩ := Option.map_eq_some_iff.mp h
      rename_i c n
      refine ⟨⟨.type n, .ty n, fun x q => ?_, ?_⟩, fun c z => by cases z; exact hc⟩
      · cases q.leaf_of (d := .ty n) rfl; exact ⟨rfl, .ty n⟩
      · rw [Bt.of_name e1]; exact C.cb c hc b' b'.mem (of_ne e1)
    · cases h
  · split at h
    · rename_i hc; cases h
      rename_i c e
      refine ⟨⟨.ref (He.ga K e), .ref (He.ga K e), fun x q => ?_, C.cc c hc.1 e hc.2⟩, fun c z => by cases z; exact hc.1⟩
      cases q.leaf_of (d := .obj e) rfl; exact ⟨rfl, .own _⟩
    · cases h
  · cases h
theorem isiAny_of (C : ClsOk K cls) {k : Bt ⊕ Str} : ∀ {es : List D} {b : Bool} {vs : List V}, isiAny cls k es = some b → FReps K (rdH H) vs es → (∃ us, Paired ClsV vs us ∧ PySem.W.kitAny K (kindV K k) us = some b) ∧ (es ≠ [] → ∀ c, k = .inr c → c ∈ cls)
  | [], _, _, h, .nil => ⟨⟨[], .nil, h⟩, fun ne => absurd rfl ne⟩
  | e :: r, b, _, h, .cons (v := x) (vs := xs) q t => by
    obtain ⟨b1, h1, h2⟩ := Option.bind_eq_some_iff.mp h
    obtain ⟨b2, h3, h4⟩ := Option.bind_eq_some_iff.mp h2
    cases h4
    obtain ⟨⟨u, w, hw, hk⟩, hc⟩ := isiOne_of (H := H) C h1
    obtain ⟨rfl, cv⟩ := hw x q
    obtain ⟨⟨us, p, hk2⟩, _⟩ := isiAny_of C h3 t
    refine ⟨⟨u :: us, .cons cv p, kitAny_cons hk (fun z => ?_) (fun z => ?_)⟩, fun _ => hc⟩
    · subst z; exact hk2
    · subst z; rfl
def opIsi (cls : List Str) : List (Tg × D) → Option Sl
  | [(_, x), (u, c)] => (kindD x).bind fun k => match c with
    | .tup (e :: es) => if u.flat then (isiAny cls k (e :: es)).map fun b => .fz (.bl b) else none
    | c => (isiOne cls k c).map fun b => .fz (.bl b)
  | _ => none
/-- the tuple of classes, read -/
def rIsiR (K : PySem.W.Frag) : List V → Hp → VK → Prop := fun xs H Q => ∃ (x : V) (tp : Addr) (cs : List V) (t : Value) (us : List Value) (b : Bool), xs = [x, .ref tp] ∧ Rd H tp (.tup cs) ∧ Paired ClsV cs us ∧ TyX K H x t ∧ PySem.W.kitAny K t us = some b ∧ Q (.bl b) H
theorem call_isiR {X : Cx} : CallR X (.builtin "isinstance") (rIsiR X.K) := by
  intro pins s σ H xs us Q I r h
  obtain ⟨x, tp, cs, t, ws, b, rfl, hT, k, ty, e, q⟩ := h
  obtain ⟨u1, u2, rfl, r1, r2⟩ := vals2 r
  cases (show u2 = Value.ref tp from r2)
  obtain ⟨P, Z, p, hx⟩ := kit_of I r1 ty
  obtain ⟨_, its, rv, o, h1, h2, n, h3⟩ := (show ObjOk X.prog X.w H s.heap tp (.tup cs) from hT.ok I.hok)
  have e3 := ClsV.all k rv
  subst e3
  obtain ⟨oc, od, dt, sl⟩ := o
  simp only at h2 h3
  subst h2 h3
  exact PySem.W.kia_tup Z I.kIn p h1 e hx fun tk => ⟨.bl b, H, I.tok tk, rfl, q⟩
def rIsiW (K : PySem.W.Frag) : List V → Hp → VK → Prop := fun xs H Q => rIsiU K xs H Q ∨ rIsiK K xs H Q ∨ rIsiR K xs H Q
theorem call_isiW {X : Cx} : CallR X (.builtin "isinstance") (rIsiW X.K) := call_isiU.or (call_isiK.or call_isiR)
theorem op_isi_ok (C : ClsOk K cls) : OpN K (rIsiW K) (opIsi cls) := by
  intro Z H vs xs res Q s hs h k
  unfold opIsi at h
  split at h
  · rename_i t x u c
    obtain ⟨kd, e1, e2⟩ := Option.bind_eq_some_iff.mp h
    cases hs with
    | cons h1 hs =>
      cases hs with
      | cons h2 hs =>
        cases hs
        rename_i v1 v2
        obtain ⟨f1, h1⟩ := h1
        obtain ⟨f2, h2⟩ := h2
        split at e2
        · rename_i e es
          split at e2
          · rename_i hf
            obtain ⟨b, e3, rfl⟩ := Option.map_eq_some_iff.mp e2
            obtain ⟨Z1, s1, r1, a, ws, rfl, fr, q⟩ := h2.flat hf s rfl
            obtain ⟨⟨us, p, hk⟩, hc⟩ := isiAny_of C e3 (fr.rd s.toSub)
            have ty := kind_of C s h1 e1 (hc (by simp))
            rcases q with ⟨o, q, q2⟩ | ((q | ⟨o, q⟩) | ⟨o, its, n, q1, q2, q3, _, q4⟩) | tx
            · rw [oview_tup q2] at q
              have q' : H a = some (.tup ws) := at_of s (fun z => z) q
              exact .inl (.inr ⟨_, a, ws, _, us, b, rfl, q', p, ty, hk, nl s k (.bl _)⟩)
            · cases q
            · cases q
            · refine .inr (.inl ⟨_, a, o.dict, its.toList, n, o.slots, _, b, rfl, ?_, ty, by rw [ClsV.all p q4]; exact hk, nl s k (.bl _)⟩)
              rw [q1]
              obtain ⟨c1, c2, c3, c4⟩ := o
              dsimp only at q2 q3 ⊢
              subst q2 q3
              rfl
            · obtain ⟨b', hb', _⟩ := tx.at_ s.toSub
              exact .inr (.inr ⟨_, a, ws, _, us, b, rfl, .inr ⟨b', hb'⟩, p, ty, hk, nl s k (.bl _)⟩)
          · cases e2
        · obtain ⟨b, e3, rfl⟩ := Option.map_eq_some_iff.mp e2
          obtain ⟨⟨w, y, hw, hk⟩, hc⟩ := isiOne_of (H := H) C e3
          obtain ⟨rfl, cv⟩ := hw _ (h2.rd s.toSub)
          exact .inl (.inl ⟨_, _, _, w, b, rfl, cv, kind_of C s h1 e1 hc, hk, nl s k (.bl _)⟩)
  · cases h
end
end Mi
namespace Mi
open PySem PySem.Spec PyProof.Rows L2 Rt
def Sl.frz : Sl → Sl
  | .ow _ d => .fz d
  | s => s
def Ent.frz (e : Ent) : Ent := ⟨e.v, e.s.frz, []⟩
def Fzd (e e' : Ent) : Prop := e' = e ∨ e' = e.frz
section
variable {K : PySem.W.Frag} {E : EW} {σ : L2.St} {Z H Z' H' : Hp} {es ts us es' ts' : List Ent} {Q : VK}
theorem Fzd.refl : ∀ l : List Ent, Paired Fzd l l
  | [] => .nil
  | _ :: r => .cons (.inl rfl) (Fzd.refl r)
theorem Fzd.all : ∀ l : List Ent, Paired Fzd l (l.map Ent.frz)
  | [] => .nil
  | _ :: r => .cons (.inr rfl) (Fzd.all r)
theorem Fzd.app : ∀ {a a' b b' : List Ent}, Paired Fzd a a' → Paired Fzd b b' → Paired Fzd (a ++ b) (a' ++ b')
  | _, _, _, _, .nil, h => h
  | _, _, _, _, .cons r t, h => .cons r (Fzd.app t h)
theorem Fzd.modAt : ∀ (l : List Ent) (i : Nat), Paired Fzd l (l.modify i Ent.frz)
  | [], i => by rw [List.modify_nil]; exact .nil
  | _ :: r, 0 => .cons (.inr rfl) (Fzd.refl r)
  | _ :: r, i + 1 => .cons (.inl rfl) (Fzd.modAt r i)
theorem Fzd.sub : ∀ {l l' : List Ent}, Paired Fzd l l' → (fpsOf l').Sublist (fpsOf l)
  | _, _, .nil => .slnil
  | _, _, .cons (a := e) (b := e') (l₁ := r) (l₂ := r') h t => by
    have ih := Fzd.sub t
    show (e'.fp ++ fpsOf r').Sublist (e.fp ++ fpsOf r)
    rcases h with rfl | rfl
    · exact List.Sublist.append_left ih _
    · show ([] ++ fpsOf r').Sublist _
      exact List.Sublist.trans ih (List.sublist_append_right _ _)
theorem Fzd.vs : ∀ {l l' : List Ent}, Paired Fzd l l' → vsOf l' = vsOf l
  | _, _, .nil => rfl
  | _, _, .cons h t => by
    simp only [List.map_cons, List.cons.injEq]
    exact ⟨by rcases h with rfl | rfl <;> rfl, Fzd.vs t⟩
theorem Fzd.mem : ∀ {l l' : List Ent}, Paired Fzd l l' → ∀ e' ∈ l', ∃ e ∈ l, Fzd e e'
  | _, _, .nil, _, m => by cases m
  | _, _, .cons h t, e', m => by
    rcases List.mem_cons.mp m with rfl | m
    · exact ⟨_, List.mem_cons_self, h⟩
    · obtain ⟨e, me, q⟩ := Fzd.mem t e' m
      exact ⟨e, List.mem_cons_of_mem _ me, q⟩
/-- which of what a list has is frozen by Fzd: those addresses are in no other entry -/
theorem Fzd.gone : ∀ {l l' : List Ent}, Paired Fzd l l' → (fpsOf l).Nodup → ∀ e' ∈ l', ∃ e ∈ l, e' = e ∨ (e' = e.frz ∧ ∀ a ∈ e.fp, a ∉ fpsOf l')
  | _, _, .nil, _, _, m => by cases m
  | _, _, .cons (a := e) (b := e1) (l₁ := r) (l₂ := r') h t, nd, e', m => by
    have nd' : (e.fp ++ fpsOf r).Nodup := nd
    rw [List.nodup_append] at nd'
    rcases List.mem_cons.mp m with rfl | m
    · rcases h with h | h
      · exact ⟨e, List.mem_cons_self, .inl h⟩
      · refine ⟨e, List.mem_cons_self, .inr ⟨h, fun a ma q => ?_⟩⟩
        subst h
        have q' : a ∈ [] ++ fpsOf r' := q
        exact nd'.2.2 a ma a ((Fzd.sub t).subset (by simpa using q')) rfl
    · obtain ⟨u, mu, q⟩ := Fzd.gone t nd'.2.1 e' m
      refine ⟨u, List.mem_cons_of_mem _ mu, q.imp id fun ⟨q1, q2⟩ => ⟨q1, fun a ma z => ?_⟩⟩
      have z' : a ∈ e1.fp ++ fpsOf r' := z
      rcases List.mem_append.mp z' with z' | z'
      · have : a ∈ e.fp := by
          rcases h with rfl | rfl
          · exact z'
          · cases z'
        exact nd'.2.2 a this a (mem_fps.mpr ⟨u, mu, ma⟩) rfl
      · exact q2 a ma z'
theorem Sat.freeze (s : Sat K Z H es ts) (he : Paired Fzd es es') (ht : Paired Fzd ts ts') : ∃ Z', Sat K Z' H es' ts' ∧ Step Z H (fpsOf (es ++ ts)) Z' H (fpsOf (es' ++ ts')) := by
  have pa := Fzd.app he ht
  have sl := Fzd.sub pa
  let G := (fpsOf (es ++ ts)).filter fun a => decide (a ∉ fpsOf (es' ++ ts'))
  have mG : ∀ a, a ∈ G ↔ a ∈ fpsOf (es ++ ts) ∧ a ∉ fpsOf (es' ++ ts') := fun a => by rw [List.mem_filter]; simp only [decide_eq_true_eq]
  refine ⟨zcat Z H G, ⟨⟨⟨fun a o e n => ?_, fun a m' e => ?_⟩, s.sub.tm.mono zcat_le⟩, sl.nodup s.nd, fun a m => ?_, fun e' m => ?_⟩, ⟨fun a o e _ => .inl e, fun a m => .inl (sl.subset m), zcat_le, fun a o e => ?_⟩⟩
  · rcases zcat_of e with z | ⟨_, z⟩
    · exact s.sub.fz a o z n
    · exact .inl z
  · rcases zcat_of e with z | ⟨z1, z⟩
    · exact tabZ_mono (s.sub.tb a m' z) zcat_le
    · obtain ⟨o, h1, h2⟩ := s.owned a ((mG a).mp z1).1
      rw [z] at h1; cases h1
      exact (h2 trivial).elim
  · unfold zcat
    rw [s.zf a (sl.subset m), if_neg (fun z => ((mG a).mp z).2 m)]
  · obtain ⟨e, me, q⟩ := Fzd.gone pa s.nd e' m
    have ok := s.ok e me
    rcases q with rfl | ⟨rfl, ng⟩
    · exact ok.frame zcat_le (fun a _ o q => q) (Fzd.vs he)
    · cases hs : e.s with
      | ow t d =>
        unfold EntOk at ok
        rw [hs] at ok
        obtain ⟨x, h1, h2⟩ := ok
        show EntOk K _ H es' ⟨e.v, e.s.frz, []⟩
        rw [hs]
        exact ⟨x, h1, h2.freeze fun a ma => ⟨s.zf a (mem_fps.mpr ⟨e, me, ma⟩), (mG a).mpr ⟨mem_fps.mpr ⟨e, me, ma⟩, ng a ma⟩⟩, rfl⟩
      | fz d =>
        have ok2 := ok.frame (H' := H) (es2 := es') (zcat_le (H := H) (F := G)) (fun a _ o q => q) (Fzd.vs he)
        unfold EntOk at ok2 ⊢
        rw [hs] at ok2
        rw [show (Ent.frz e).s = .fz d by show e.s.frz = _; rw [hs]; rfl]
        obtain ⟨x, h1, h2, h3⟩ := ok2
        exact ⟨x, h1, h2, rfl⟩
      | un =>
        unfold EntOk
        rw [show (Ent.frz e).s = .un by show e.s.frz = _; rw [hs]; rfl]
        rfl
      | al i =>
        have ok2 := ok.frame (H' := H) (es2 := es') (zcat_le (H := H) (F := G)) (fun a _ o q => q) (Fzd.vs he)
        unfold EntOk at ok2 ⊢
        rw [hs] at ok2
        rw [show (Ent.frz e).s = .al i by show e.s.frz = _; rw [hs]; rfl]
        exact ⟨rfl, ok2.2⟩
  · rcases zcat_of e with z | ⟨z, _⟩
    · exact .inl z
    · exact .inr (.inl ((mG a).mp z).1)
def Sl.mod (ss : List Sl) (i : Nat) : List Sl := ss.modify i Sl.frz
def kfrz (r : Sl) (ss : List Sl) : Ro (Sl × List Sl) := match r with
  | .ow _ d => .ok (.fz d, ss)
  | .al i => match ss[i]? with
    | some (.ow _ d) => .ok (.fz d, ss.set i (.fz d))
    | some (.fz d) => .ok (.fz d, ss)
    | _ => .stuck
  | .fz d => .ok (.fz d, ss)
  | .un => .stuck
def ffrz (fa : FE) : FE := fun ss => (fa ss).bind fun p => kfrz p.1 p.2
theorem konAt {F : List Addr} {r : Sl} {ss : List Sl} (st : Step Z H F Z' H' (fpsOf (es' ++ us))) (s : Sat K Z' H' es' us) (hv : vsOf es' = σ) (hs : ssOf es' = ss) (k : KQ K E σ Z H F (.ok (r, ss)) Q) {v : V} {fv : List Addr} (hu : us = [⟨some v, r, fv⟩]) : Q v H' := by
  subst hu
  exact k Z' H' es' _ st s hv hs rfl v rfl
theorem re_frz {fa : FE} (h : RE K E (ffrz fa) σ H Q) : RE K E fa σ H Q := by
  obtain ⟨Z, es, s, hv, k⟩ := h
  refine RE.next (ts := []) (n := fun p => kfrz p.1 p.2) s hv (by rw [List.append_nil]; exact k) fun a Z1 H1 es1 v fp s1 hv1 k1 => ?_
  cases a with
  | un => exact k1.elim
  | fz d => exact konAt (Step.refl fun a m => m) s1 hv1 rfl k1 rfl
  | ow t d =>
    obtain ⟨Z2, s2, st⟩ := s1.freeze (Fzd.refl _) (Fzd.all _)
    exact konAt (us := [⟨some v, .fz d, []⟩]) st s2 hv1 rfl k1 rfl
  | al i =>
    have ok := s1.ok ⟨some v, .al i, fp⟩ (by simp)
    obtain ⟨h0, u, x, h1, h2, h3⟩ := ok
    cases h3
    have e1 : (ssOf es1)[i]? = some u.s := by rw [List.getElem?_map, h1]; rfl
    have um : u ∈ es1 ++ ([] ++ [⟨some v, .al i, fp⟩]) := List.mem_append_left _ (List.mem_of_getElem? h1)
    unfold kfrz at k1
    dsimp only at k1
    rw [e1] at k1
    cases hs : u.s with
    | un => rw [hs] at k1; exact k1.elim
    | al j => rw [hs] at k1; exact k1.elim
    | fz d =>
      rw [hs] at k1
      have := s1.ok u um
      unfold EntOk at this
      rw [hs] at this
      obtain ⟨y, q1, q2, q3⟩ := this
      rw [h2] at q1; cases q1
      exact fin_same s1 hv1 k1 ⟨v, rfl, q2, rfl⟩
    | ow t d =>
      rw [hs] at k1
      have pf := Fzd.modAt es1 i
      obtain ⟨Z2, s2, st⟩ := s1.freeze pf (Fzd.refl _)
      have e2 : (es1.modify i Ent.frz)[i]? = some u.frz := by rw [List.getElem?_modify_eq, h1]; rfl
      have ok2 := s2.ok u.frz (List.mem_append_left _ (List.mem_of_getElem? e2))
      unfold EntOk at ok2
      rw [show (Ent.frz u).s = .fz d by show u.s.frz = _; rw [hs]; rfl] at ok2
      obtain ⟨y, q1, q2, q3⟩ := ok2
      rw [show (Ent.frz u).v = u.v from rfl, h2] at q1; cases q1
      have e3 : ssOf (es1.modify i Ent.frz) = (ssOf es1).set i (.fz d) := by
        apply List.ext_getElem?
        intro j
        rw [List.getElem?_map, List.getElem?_set, List.getElem?_map, List.getElem?_modify]
        by_cases hj : i = j
        · subst hj
          rw [if_pos rfl, h1]
          have : i < (ssOf es1).length := (List.getElem?_eq_some_iff.mp e1).1
          rw [if_pos this]
          simp only [if_true]
          show some u.s.frz = _
          rw [hs]; rfl
        · rw [if_neg hj]
          simp only [hj]
          cases es1[j]? <;> rfl
      refine konAt (us := [⟨some v, .fz d, []⟩]) (Z' := Z2) (es' := es1.modify i Ent.frz) (st.less fun a m => ?_) ⟨s2.sub, ?_, fun a m => ?_, fun e m => ?_⟩ ((Fzd.vs pf).trans hv1) e3 k1 rfl
      · rcases fps_app.mp m with q | q
        · exact fps_app.mpr (.inl q)
        · simp at q
      · have nd := s2.nd
        simp only [fpsOf, List.flatMap_append] at nd ⊢
        simpa using (List.nodup_append.mp nd).1
      · rcases fps_app.mp m with q | q
        · exact s2.zf a (fps_app.mpr (.inl q))
        · simp at q
      · rcases List.mem_append.mp m with q | q
        · exact s2.ok e (List.mem_append_left _ q)
        · obtain rfl := List.mem_singleton.mp q
          exact ⟨v, rfl, q2, rfl⟩
end
end Mi
namespace Mi
open PySem PySem.Spec PyProof.Rows L2 Rt
def frzL : List Sl → Option (List D)
  | [] => some []
  | .fz d :: r => (frzL r).bind fun ds => some (d :: ds)
  | .ow _ d :: r => (frzL r).bind fun ds => some (d :: ds)
  | _ :: _ => none
section
variable {K : PySem.W.Frag} {E : EW} {σ : L2.St} {Z H Z' H' : Hp} {es ts us es' ts' : List Ent} {Q : VK}
theorem frz_reps : ∀ {us : List Ent} {vs : List V} {ds : List D}, (∀ u ∈ us.map Ent.frz, EntOk K Z H es u) → frzL (ssOf us) = some ds → vsOf us = vs.map some → FReps K Z vs ds
  | [], vs, ds, _, h, e => by
    cases h
    cases vs with
    | nil => exact .nil
    | cons _ _ => cases e
  | u :: us, vs, ds, ok, h, e => by
    cases vs with
    | nil => cases e
    | cons v vs =>
      simp only [List.map_cons, List.cons.injEq] at e
      have ok1 := ok u.frz (by simp)
      have ok2 : ∀ w ∈ us.map Ent.frz, EntOk K Z H es w := fun w m => ok w (by rw [List.map_cons]; exact List.mem_cons_of_mem _ m)
      unfold EntOk at ok1
      change frzL (u.s :: ssOf us) = some ds at h
      cases hs : u.s with
      | un => rw [hs] at h; cases h
      | al i => rw [hs] at h; cases h
      | fz d =>
        rw [hs] at h
        obtain ⟨ds', h1, h2⟩ := Option.bind_eq_some_iff.mp h
        cases h2
        rw [show (Ent.frz u).s = .fz d by show u.s.frz = _; rw [hs]; rfl] at ok1
        obtain ⟨x, q1, q2, _⟩ := ok1
        rw [show (Ent.frz u).v = u.v from rfl, e.1] at q1; cases q1
        exact .cons q2 (frz_reps ok2 h1 e.2)
      | ow t d =>
        rw [hs] at h
        obtain ⟨ds', h1, h2⟩ := Option.bind_eq_some_iff.mp h
        cases h2
        rw [show (Ent.frz u).s = .fz d by show u.s.frz = _; rw [hs]; rfl] at ok1
        obtain ⟨x, q1, q2, _⟩ := ok1
        rw [show (Ent.frz u).v = u.v from rfl, e.1] at q1; cases q1
        exact .cons q2 (frz_reps ok2 h1 e.2)
/-- all that is on the way is frozen -/
theorem Sat.freezeL {res : Ro (Sl × List Sl)} {vs : List V} {ds : List D} (s : Sat K Z H es us) (hv : vsOf es = σ) (he : vsOf us = vs.map some) (hd : frzL (ssOf us) = some ds) (k : KQ K E σ Z H (fpsOf (es ++ us)) res Q) :
    ∃ Z', Sat K Z' H es (us.map Ent.frz) ∧ FReps K Z' vs ds ∧ KQ K E σ Z' H (fpsOf (es ++ us.map Ent.frz)) res Q := by
  obtain ⟨Z', s', st⟩ := s.freeze (Fzd.refl _) (Fzd.all _)
  exact ⟨Z', s', frz_reps (fun u m => s'.ok u (List.mem_append_right _ m)) hd he, k.from st⟩
def kdisp (f : List D → D) (own : Bool) (rs : List Sl) (ss : List Sl) : Ro (Sl × List Sl) := match frzL rs with
  | some ds => if ds.length ≤ sizeLine then .ok (if own then .ow .o1 (f ds) else .fz (f ds), ss) else .stuck
  | none => .stuck
def fTup (ft : FA) : FE := fun ss => (ft ss).bind fun p => kdisp .tup false p.1 p.2
def fLst (ft : FA) : FE := fun ss => (ft ss).bind fun p => kdisp .lst true p.1 p.2
theorem re_tup {ft : FA} (h : RE K E (fTup ft) σ H Q) : tTup (RA K E ft) σ H Q := by
  obtain ⟨Z, es, s, hv, k⟩ := h
  refine RA.next (ts := []) (n := fun p => kdisp .tup false p.1 p.2) s hv (by rw [List.append_nil]; exact k) fun Z1 H1 es1 us vs e1 s1 hv1 k1 => ?_
  rw [List.nil_append] at s1 k1
  unfold kdisp at k1
  dsimp only at k1
  cases hd : frzL (ssOf us) with
  | none => rw [hd] at k1; exact k1.elim
  | some ds =>
    rw [hd] at k1
    dsimp only at k1
    obtain ⟨Z2, s2, fr, k2⟩ := s1.freezeL hv1 e1 hd k1
    split at k2
    · rename_i hl
      refine ⟨by rw [fr.len]; exact hl, fun p np => fin_new s2 hv1 k2 (New.fzo s2.sub np rfl rfl fr)⟩
    · exact k2.elim
theorem re_lst {ft : FA} (h : RE K E (fLst ft) σ H Q) : tLst (RA K E ft) σ H Q := by
  obtain ⟨Z, es, s, hv, k⟩ := h
  refine RA.next (ts := []) (n := fun p => kdisp .lst true p.1 p.2) s hv (by rw [List.append_nil]; exact k) fun Z1 H1 es1 us vs e1 s1 hv1 k1 => ?_
  rw [List.nil_append] at s1 k1
  unfold kdisp at k1
  dsimp only at k1
  cases hd : frzL (ssOf us) with
  | none => rw [hd] at k1; exact k1.elim
  | some ds =>
    rw [hd] at k1
    dsimp only at k1
    obtain ⟨Z2, s2, fr, k2⟩ := s1.freezeL hv1 e1 hd k1
    split at k2
    · rename_i hl
      refine ⟨by rw [fr.len]; exact hl, fun p np => fin_new s2 hv1 k2 (New.o1 s2.sub np rfl rfl fr)⟩
    · exact k2.elim
/-- entry by entry: a is written, d' stands there -/
def Wr (a : Addr) (d' : D) (e e' : Ent) : Prop := (e' = e ∧ a ∉ e.fp) ∨ (e.fp = [a] ∧ e.v = some (.ref a) ∧ e' = ⟨e.v, .ow .o1 d', [a]⟩)
theorem Wr.fp {a : Addr} {d' : D} {e e' : Ent} (h : Wr a d' e e') : e'.fp = e.fp := by
  rcases h with ⟨rfl, _⟩ | ⟨h, _, rfl⟩
  · rfl
  · exact h.symm
theorem Wr.v {a : Addr} {d' : D} {e e' : Ent} (h : Wr a d' e e') : e'.v = e.v := by
  rcases h with ⟨rfl, _⟩ | ⟨_, _, rfl⟩ <;> rfl
theorem Wr.fps {a : Addr} {d' : D} : ∀ {l l' : List Ent}, Paired (Wr a d') l l' → fpsOf l' = fpsOf l
  | _, _, .nil => rfl
  | _, _, .cons h t => by
    show _ ++ fpsOf _ = _ ++ fpsOf _
    rw [h.fp, Wr.fps t]
theorem Wr.vs {a : Addr} {d' : D} : ∀ {l l' : List Ent}, Paired (Wr a d') l l' → vsOf l' = vsOf l
  | _, _, .nil => rfl
  | _, _, .cons h t => by
    simp only [List.map_cons, List.cons.injEq]
    exact ⟨h.v, Wr.vs t⟩
theorem Paired.mem_right {α β : Type} {R : α → β → Prop} : ∀ {l : List α} {m : List β}, Paired R l m → ∀ b ∈ m, ∃ a ∈ l, R a b
  | _, _, .nil, _, h => by cases h
  | _, _, .cons r t, b, h => by
    rcases List.mem_cons.mp h with rfl | h
    · exact ⟨_, List.mem_cons_self, r⟩
    · obtain ⟨a, m, q⟩ := Paired.mem_right t b h
      exact ⟨a, List.mem_cons_of_mem _ m, q⟩
theorem Paired.app {α β : Type} {R : α → β → Prop} : ∀ {a c : List α} {b d : List β}, Paired R a b → Paired R c d → Paired R (a ++ c) (b ++ d)
  | _, _, _, _, .nil, h => h
  | _, _, _, _, .cons r t, h => .cons r (Paired.app t h)
theorem Sat.write {a : Addr} {o : HO} {k : Kd} {vs : List V} {ds : List D} {d' : D} (s : Sat K Z H es ts) (ha : a ∈ fpsOf (es ++ ts)) (he : Paired (Wr a d') es es') (ht : Paired (Wr a d') ts ts') (hv : oview o = some (k, vs)) (hd : dview K d' = some (k, ds)) (hs : FReps K Z vs ds) :
    Sat K Z (upd H a o) es' ts' ∧ Step Z H (fpsOf (es ++ ts)) Z (upd H a o) (fpsOf (es' ++ ts')) := by
  have pa := Paired.app he ht
  have ef := Wr.fps pa
  have za := s.zf a ha
  refine ⟨⟨s.sub.over za (s.noCd ha), by rw [ef]; exact s.nd, fun b m => s.zf b (by rw [← ef]; exact m), fun e' m => ?_⟩, ⟨fun b u e n => ?_, fun b m => .inl (by rw [← ef]; exact m), Le.refl _, fun _ _ e => .inl e⟩⟩
  · obtain ⟨e, me, w⟩ := Paired.mem_right pa e' m
    rcases w with ⟨rfl, na⟩ | ⟨h1, h2, rfl⟩
    · exact (s.ok e' me).frame (Le.refl _) (fun b mb u q => by rw [upd_ne (fun z => na (by rw [← z]; exact mb))]; exact q) (Wr.vs he)
    · exact ⟨.ref a, h2, .inr ⟨a, o, k, vs, ds, rfl, upd_same, hv, hd, hs, rfl⟩⟩
  · have : b ≠ a := fun z => n (by rw [z]; exact ha)
    rw [upd_ne this]; exact .inl e
/-- the entry that owns a, written; all others as they are -/
theorem Wr.set {a : Addr} {d' : D} : ∀ {l : List Ent} {i : Nat} {e : Ent}, l[i]? = some e → e.fp = [a] → e.v = some (.ref a) → (fpsOf l).Nodup → Paired (Wr a d') l (l.set i ⟨e.v, .ow .o1 d', [a]⟩)
  | [], _, _, h, _, _, _ => by simp at h
  | u :: r, 0, e, h, h1, h2, nd => by
    simp at h; subst h
    refine .cons (.inr ⟨h1, h2, rfl⟩) ?_
    have : a ∉ fpsOf r := fun m => by
      have nd' : (u.fp ++ fpsOf r).Nodup := nd
      rw [h1] at nd'
      simp only [List.singleton_append, List.nodup_cons] at nd'
      exact nd'.1 m
    clear nd
    induction r with
    | nil => exact .nil
    | cons x r ih =>
      refine .cons (.inl ⟨rfl, fun m => this (by show a ∈ x.fp ++ fpsOf r; exact List.mem_append_left _ m)⟩) (ih fun m => this (by show a ∈ x.fp ++ fpsOf r; exact List.mem_append_right _ m))
  | u :: r, i + 1, e, h, h1, h2, nd => by
    have nd' : (u.fp ++ fpsOf r).Nodup := nd
    rw [List.nodup_append] at nd'
    have h' : r[i]? = some e := by simpa using h
    refine .cons (.inl ⟨rfl, fun m => nd'.2.2 a m a (mem_fps.mpr ⟨e, List.mem_of_getElem? h', by rw [h1]; exact List.mem_singleton.mpr rfl⟩) rfl⟩) (Wr.set h' h1 h2 nd'.2.1)
theorem Wr.refl {a : Addr} {d' : D} : ∀ {l : List Ent}, a ∉ fpsOf l → Paired (Wr a d') l l
  | [], _ => .nil
  | u :: r, h => .cons (.inl ⟨rfl, fun m => h (by show a ∈ u.fp ++ fpsOf r; exact List.mem_append_left _ m)⟩) (Wr.refl fun m => h (by show a ∈ u.fp ++ fpsOf r; exact List.mem_append_right _ m))
end
def truD : D → Option Bool
  | .non => some false
  | .bl b => some b
  | .int i => some (i != 0)
  | .str x => if x.length ≤ sizeLine then some ((x.length : Int) != 0) else none
  | .lst xs => some !xs.isEmpty
  | .tup xs => some !xs.isEmpty
  | _ => none
def ktest (f : D → Option Bool) (r : Sl) (ss : List Sl) : Ro (Bool × List Sl) := match (r.val ss).bind fun x => f x.2 with
  | some b => .ok (b, ss)
  | none => .stuck
def blD : D → Option Bool
  | .bl b => some b
  | _ => none
def fTest (fa : FE) : FT := fun ss => (fa ss).bind fun p => ktest blD p.1 p.2
def fTrv (fa : FE) : FT := fun ss => (fa ss).bind fun p => ktest truD p.1 p.2
def fAnd (fa fb : FT) : FT := fun ss => (fa ss).bind fun p => if p.1 = true then fb p.2 else .ok (false, p.2)
def fOr (fa fb : FT) : FT := fun ss => (fa ss).bind fun p => if p.1 = true then .ok (true, p.2) else fb p.2
def fNot (fa : FT) : FT := fun ss => (fa ss).bind fun p => .ok (!p.1, p.2)
def fIf (ft : FT) (fa fb : FE) : FE := fun ss => (ft ss).bind fun p => if p.1 = true then fa p.2 else fb p.2
def fYes : FT := fun ss => .ok (true, ss)
section
variable {K : PySem.W.Frag} {E : EW} {σ : L2.St} {Z H Z' H' : Hp} {es ts us es' ts' : List Ent} {Q : VK} {B : Bool → Hp → Prop}
abbrev KB (K : PySem.W.Frag) (E : EW) (σ : L2.St) (Z H : Hp) (F : List Addr) (m : Ro (Bool × List Sl)) (B : Bool → Hp → Prop) : Prop := Kon K E σ Z H F m (fun _ => []) fun b _ H' _ _ => B b H'
theorem fin_b {b : Bool} (s : Sat K Z H es ts) (hv : vsOf es = σ) (k : KB K E σ Z H (fpsOf (es ++ ts)) (.ok (b, ssOf es)) B) : B b H :=
  k Z H es [] (Step.refl fun a m => by rw [List.append_nil] at m; exact fps_app.mpr (.inl m)) s.bare hv rfl rfl
theorem tru_of {t : Tg} {v : V} {d : D} {fp : List Addr} {b : Bool} (s : SubM K Z H) (h : Rep K Z H t v d fp) (e : truD d = some b) : TruV K v H b := by
  unfold truD at e
  split at e
  · cases e; rw [rep_non s h]; rfl
  · cases e; rw [rep_bl s h]; rfl
  · cases e; rw [rep_int s h]; rfl
  · split at e
    · rename_i hl; cases e; rw [rep_str s h]; exact ⟨hl, rfl⟩
    · cases e
  · cases e
    rename_i xs
    obtain ⟨a, vs, rfl, q, fr⟩ := rep_lstR s h
    refine .inl ⟨vs, .of q, ?_⟩
    cases fr <;> rfl
  · cases e
    rename_i xs
    obtain ⟨a, vs, rfl, q, fr⟩ := rep_tupR s h
    refine .inr (.inl ⟨vs, q, ?_⟩)
    cases fr <;> rfl
  · cases e
theorem ktest_of {f : D → Option Bool} {r : Sl} {ss : List Sl} {F : List Addr} (k : KB K E σ Z H F (ktest f r ss) B) : ∃ t d b, r.val ss = some (t, d) ∧ f d = some b ∧ KB K E σ Z H F (.ok (b, ss)) B := by
  unfold ktest at k
  cases h : (r.val ss).bind fun x => f x.2 with
  | none => rw [h] at k; exact k.elim
  | some b =>
    rw [h] at k
    obtain ⟨⟨t, d⟩, h1, h2⟩ := Option.bind_eq_some_iff.mp h
    exact ⟨t, d, b, h1, h2, k⟩
theorem rt_trv {fa : FE} (h : RT K E (fTrv fa) σ H B) : tTrv K (RE K E fa) σ H B := by
  obtain ⟨Z, es, s, hv, k⟩ := h
  refine RE.next (ts := []) (n := fun p => ktest truD p.1 p.2) s hv (by rw [List.append_nil]; exact k) fun a Z1 H1 es1 v fp s1 hv1 k1 => ?_
  obtain ⟨t, d, b, h1, h2, k2⟩ := ktest_of k1
  obtain ⟨f, rp, _⟩ := s1.val (e := ⟨some v, a, fp⟩) (by simp) rfl h1
  exact ⟨b, tru_of s1.sub rp h2, fin_b s1 hv1 k2⟩
theorem rt_test {fa : FE} (h : RT K E (fTest fa) σ H B) : tTest (RE K E fa) σ H B := by
  obtain ⟨Z, es, s, hv, k⟩ := h
  refine RE.next (ts := []) (n := fun p => ktest blD p.1 p.2) s hv (by rw [List.append_nil]; exact k) fun a Z1 H1 es1 v fp s1 hv1 k1 => ?_
  obtain ⟨t, d, b, h1, h2, k2⟩ := ktest_of k1
  obtain ⟨f, rp, _⟩ := s1.val (e := ⟨some v, a, fp⟩) (by simp) rfl h1
  cases d <;> cases h2
  exact ⟨_, rep_bl s1.sub rp, fin_b s1 hv1 k2⟩
theorem RT.of (s : Sat K Z H es []) (hv : vsOf es = σ) {fa : FT} (k : KB K E σ Z H (fpsOf es) (fa (ssOf es)) B) : RT K E fa σ H B := ⟨Z, es, s, hv, k⟩
theorem rt_and {fa fb : FT} (h : RT K E (fAnd fa fb) σ H B) : tAnd (RT K E fa) (RT K E fb) σ H B := by
  obtain ⟨Z, es, s, hv, k⟩ := h
  refine RT.next (ts := []) (n := fun p => if p.1 = true then fb p.2 else .ok (false, p.2)) s hv (by rw [List.append_nil]; exact k) fun b Z1 H1 es1 s1 hv1 k1 => ?_
  rw [List.append_nil] at k1
  cases b with
  | true => exact RT.of s1 hv1 k1
  | false => exact fin_b s1 hv1 (by rw [List.append_nil]; exact k1)
theorem rt_or {fa fb : FT} (h : RT K E (fOr fa fb) σ H B) : tOr (RT K E fa) (RT K E fb) σ H B := by
  obtain ⟨Z, es, s, hv, k⟩ := h
  refine RT.next (ts := []) (n := fun p => if p.1 = true then .ok (true, p.2) else fb p.2) s hv (by rw [List.append_nil]; exact k) fun b Z1 H1 es1 s1 hv1 k1 => ?_
  rw [List.append_nil] at k1
  cases b with
  | true => exact fin_b s1 hv1 (by rw [List.append_nil]; exact k1)
  | false => exact RT.of s1 hv1 k1
theorem rt_not {fa : FT} (h : RT K E (fNot fa) σ H B) : tNot (RT K E fa) σ H B := by
  obtain ⟨Z, es, s, hv, k⟩ := h
  refine RT.next (ts := []) (n := fun p => .ok (!p.1, p.2)) s hv (by rw [List.append_nil]; exact k) fun b Z1 H1 es1 s1 hv1 k1 => ?_
  exact fin_b s1 hv1 k1
theorem rt_yes (h : RT K E fYes σ H B) : tYes σ H B := by
  obtain ⟨Z, es, s, hv, k⟩ := h
  exact fin_b s hv (by rw [List.append_nil]; exact k)
theorem RE.of (s : Sat K Z H es []) (hv : vsOf es = σ) {fa : FE} (k : KQ K E σ Z H (fpsOf es) (fa (ssOf es)) Q) : RE K E fa σ H Q := ⟨Z, es, s, hv, k⟩
theorem re_if {ft : FT} {fa fb : FE} (h : RE K E (fIf ft fa fb) σ H Q) : tIf (RT K E ft) (RE K E fa) (RE K E fb) σ H Q := by
  obtain ⟨Z, es, s, hv, k⟩ := h
  refine RT.next (ts := []) (n := fun p => if p.1 = true then fa p.2 else fb p.2) s hv (by rw [List.append_nil]; exact k) fun b Z1 H1 es1 s1 hv1 k1 => ?_
  rw [List.append_nil] at k1
  cases b with
  | true => exact RE.of s1 hv1 k1
  | false => exact RE.of s1 hv1 k1
end
end Mi
namespace Mi
open PySem PySem.Spec PyProof.Rows L2 Rt
inductive So where
  | nx (ss : List Sl) | rt (r : Sl) (ss : List Sl) | bk (ss : List Sl) | ct (ss : List Sl) | exc (c : Str) (fs : List (Str × D)) (ss : List Sl) | stuck
abbrev FS := List Sl → So
/-- the slots kp hold what they held -/
def Kept (kp : List Nat) (σ σ' : L2.St) : Prop := σ'.length = σ.length ∧ ∀ i ∈ kp, σ'[i]? = σ[i]?
theorem Kept.refl {kp : List Nat} (σ : L2.St) : Kept kp σ σ := ⟨rfl, fun _ _ => rfl⟩
theorem Kept.tr {kp : List Nat} {σ σ1 σ2 : L2.St} (a : Kept kp σ σ1) (b : Kept kp σ1 σ2) : Kept kp σ σ2 := ⟨b.1.trans a.1, fun i m => (b.2 i m).trans (a.2 i m)⟩
def SK (K : PySem.W.Frag) (E : EW) (kp : List Nat) (σ : L2.St) (Z H : Hp) (F : List Addr) (o : So) (D : Ends) : Prop := match o with
  | .nx ss' => ∀ Z' H' es', Step Z H F Z' H' (fpsOf es') → Sat K Z' H' es' [] → Kept kp σ (vsOf es') → ssOf es' = ss' → D.nx (vsOf es') H'
  | .bk ss' => ∀ Z' H' es', Step Z H F Z' H' (fpsOf es') → Sat K Z' H' es' [] → Kept kp σ (vsOf es') → ssOf es' = ss' → D.bk (vsOf es') H'
  | .ct ss' => ∀ Z' H' es', Step Z H F Z' H' (fpsOf es') → Sat K Z' H' es' [] → Kept kp σ (vsOf es') → ssOf es' = ss' → D.ct (vsOf es') H'
  | .rt r ss' => ∀ Z' H' es' v fv, Step Z H F Z' H' (fpsOf (es' ++ [⟨some v, r, fv⟩])) → Sat K Z' H' es' [⟨some v, r, fv⟩] → Kept kp σ (vsOf es') → ssOf es' = ss' → D.rt v H'
  | .exc c fs ss' => ∀ Z' H' es' d, Step Z H F Z' H' (fpsOf es') → Sat K Z' H' es' [] → Kept kp σ (vsOf es') → ssOf es' = ss' → ExcD K Z' H' d fs → E (vsOf es') (.ref (He.ga K c)) (some d) H'
  | .stuck => False
def RS (K : PySem.W.Frag) (E : EW) (kp : List Nat) (f : FS) : TS := fun D σ H => ∃ Z es, Sat K Z H es [] ∧ vsOf es = σ ∧ SK K E kp σ Z H (fpsOf es) (f (ssOf es)) D
def So.seq (o : So) (g : FS) : So := match o with
  | .nx ss => g ss
  | o => o
/-- what an expression's outcome gives a statement -/
def Ro.so {α : Type} (m : Ro α) (g : α → So) : So := match m with
  | .ok a => g a
  | .exc c fs ss => .exc c fs ss
  | .stuck => .stuck
def fSeq (f g : FS) : FS := fun ss => (f ss).seq g
def fNext : FS := fun ss => .nx ss
def fDrop (fe : FE) : FS := fun ss => (fe ss).so fun p => .nx p.2
def fRet (fe : FE) : FS := fun ss => (fe ss).so fun p => .rt p.1 p.2
def fIfS (ft : FT) (f g : FS) : FS := fun ss => (ft ss).so fun p => if p.1 = true then f p.2 else g p.2
def fNever : FS := fun _ => .stuck
section
variable {K : PySem.W.Frag} {E : EW} {kp : List Nat} {σ σ1 : L2.St} {Z H Z' H' Z1 H1 : Hp} {F F1 : List Addr} {es ts us es1 : List Ent} {D D' : Ends} {o : So}
theorem SK.from (st : Step Z H F Z1 H1 F1) (kd : Kept kp σ σ1) (k : SK K E kp σ Z H F o D) : SK K E kp σ1 Z1 H1 F1 o D := by
  unfold SK at k ⊢
  split at k
  · exact fun Z' H' es' a s b => k Z' H' es' (st.tr a) s (kd.tr b)
  · exact fun Z' H' es' a s b => k Z' H' es' (st.tr a) s (kd.tr b)
  · exact fun Z' H' es' a s b => k Z' H' es' (st.tr a) s (kd.tr b)
  · exact fun Z' H' es' v fv a s b => k Z' H' es' v fv (st.tr a) s (kd.tr b)
  · exact fun Z' H' es' d a s b => k Z' H' es' d (st.tr a) s (kd.tr b)
  · exact k
theorem RS.of (s : Sat K Z H es []) (hv : vsOf es = σ) {f : FS} (k : SK K E kp σ Z H (fpsOf es) (f (ssOf es)) D) : RS K E kp f D σ H := ⟨Z, es, s, hv, k⟩
theorem rs_seq {f g : FS} (h : RS K E kp (fSeq f g) D σ H) : tSeq (RS K E kp f) (RS K E kp g) D σ H := by
  obtain ⟨Z, es, s, hv, k⟩ := h
  refine ⟨Z, es, s, hv, ?_⟩
  unfold fSeq So.seq at k
  cases hf : f (ssOf es) with
  | nx ss =>
    rw [hf] at k
    intro Z' H' es' st s' kd e
    refine RS.of s' rfl ?_
    rw [e]
    exact SK.from st kd k
  | rt r ss => rw [hf] at k; exact k
  | bk ss => rw [hf] at k; exact k
  | ct ss => rw [hf] at k; exact k
  | exc c fs ss => rw [hf] at k; exact k
  | stuck => rw [hf] at k; exact k
theorem rs_next (h : RS K E kp fNext D σ H) : tNext D σ H := by
  obtain ⟨Z, es, s, hv, k⟩ := h
  have := k Z H es (Step.refl fun _ m => m) s (by rw [hv]; exact Kept.refl _) rfl
  rw [hv] at this; exact this
theorem rs_never (h : RS K E kp fNever D σ H) : tNever D σ H := h.elim fun _ h => h.elim fun _ h => h.2.2
/-- the outcome of an expression ahead of the rest of a statement; ts: what is on the way -/
theorem kon_so {α : Type} {m : Ro (α × List Sl)} {n : α × List Sl → So} {rm : α → List Sl} {Qm : α → Hp → Hp → List Ent → List Ent → Prop} (s : Sat K Z1 H1 es1 ts) (hv : vsOf es1 = σ) (k : SK K E kp σ Z1 H1 (fpsOf (es1 ++ ts)) (m.so n) D)
    (h : ∀ a Z2 H2 es2 us, ssOf us = rm a → Sat K Z2 H2 es2 (ts ++ us) → vsOf es2 = σ → SK K E kp σ Z2 H2 (fpsOf (es2 ++ (ts ++ us))) (n (a, ssOf es2)) D → Qm a Z2 H2 es2 us) : Kon K E σ Z1 H1 (fpsOf es1) m rm Qm := by
  cases m with
  | ok p =>
    obtain ⟨a, ss'⟩ := p
    intro Z2 H2 es2 us st s2 h1 h2 h3
    obtain ⟨s3, st3⟩ := s.frame st s2 (h1.trans hv.symm)
    refine h a Z2 H2 es2 us h3 s3 h1 ?_
    subst h2
    exact SK.from st3 (Kept.refl _) k
  | exc c fs ss' =>
    intro Z2 H2 es2 d st s2 h1 h2 h3
    have := k Z2 H2 es2 d (st.wide fun a z => fps_app.mpr (.inl z)) s2 (by rw [h1]; exact Kept.refl _) h2 h3
    rw [h1] at this; exact this
  | stuck => exact k
theorem RE.so {f : FE} {n : Sl × List Sl → So} {Q : VK} (s : Sat K Z1 H1 es1 ts) (hv : vsOf es1 = σ) (k : SK K E kp σ Z1 H1 (fpsOf (es1 ++ ts)) ((f (ssOf es1)).so n) D)
    (h : ∀ r Z2 H2 es2 v fp, Sat K Z2 H2 es2 (ts ++ [⟨some v, r, fp⟩]) → vsOf es2 = σ → SK K E kp σ Z2 H2 (fpsOf (es2 ++ (ts ++ [⟨some v, r, fp⟩]))) (n (r, ssOf es2)) D → Q v H2) : RE K E f σ H1 Q := by
  refine ⟨Z1, es1, s.bare, hv, kon_so s hv k fun a Z2 H2 es2 us e1 s2 e2 k2 v e3 => ?_⟩
  obtain ⟨u, rfl⟩ : ∃ u, us = [u] := List.length_eq_one_iff.mp (by have := congrArg List.length e3; simpa using this)
  obtain ⟨uv, usl, ufp⟩ := u
  simp only [List.map_cons, List.map_nil, List.cons.injEq, and_true] at e1 e3
  subst e1 e3
  exact h usl Z2 H2 es2 v ufp s2 e2 k2
theorem RT.so {f : FT} {n : Bool × List Sl → So} {Q : Bool → Hp → Prop} (s : Sat K Z1 H1 es1 ts) (hv : vsOf es1 = σ) (k : SK K E kp σ Z1 H1 (fpsOf (es1 ++ ts)) ((f (ssOf es1)).so n) D)
    (h : ∀ b Z2 H2 es2, Sat K Z2 H2 es2 ts → vsOf es2 = σ → SK K E kp σ Z2 H2 (fpsOf (es2 ++ ts)) (n (b, ssOf es2)) D → Q b H2) : RT K E f σ H1 Q := by
  refine ⟨Z1, es1, s.bare, hv, kon_so s hv k fun a Z2 H2 es2 us e1 s2 e2 k2 => ?_⟩
  obtain rfl : us = [] := by simpa using e1
  rw [List.append_nil] at s2 k2
  exact h a Z2 H2 es2 s2 e2 k2
theorem RA.so {f : FA} {n : List Sl × List Sl → So} {Q : List V → Hp → Prop} (s : Sat K Z1 H1 es1 ts) (hv : vsOf es1 = σ) (k : SK K E kp σ Z1 H1 (fpsOf (es1 ++ ts)) ((f (ssOf es1)).so n) D)
    (h : ∀ Z2 H2 es2 us vs, vsOf us = vs.map some → Sat K Z2 H2 es2 (ts ++ us) → vsOf es2 = σ → SK K E kp σ Z2 H2 (fpsOf (es2 ++ (ts ++ us))) (n (ssOf us, ssOf es2)) D → Q vs H2) : RA K E f σ H1 Q := by
  refine ⟨Z1, es1, s.bare, hv, kon_so s hv k fun a Z2 H2 es2 us e1 s2 e2 k2 vs e3 => ?_⟩
  subst e1
  exact h Z2 H2 es2 us vs e3 s2 e2 k2
theorem sk_nx (s : Sat K Z H es ts) (hv : vsOf es = σ) (k : SK K E kp σ Z H (fpsOf (es ++ ts)) (.nx (ssOf es)) D) : D.nx σ H := by
  have := k Z H es (Step.refl fun a m => fps_app.mpr (.inl m)) s.bare (by rw [hv]; exact Kept.refl _) rfl
  rw [hv] at this; exact this
theorem rs_drop {fe : FE} (h : RS K E kp (fDrop fe) D σ H) : tDrop (RE K E fe) D σ H := by
  obtain ⟨Z, es, s, hv, k⟩ := h
  exact RE.so (ts := []) (n := fun p => .nx p.2) s hv (by rw [List.append_nil]; exact k) fun r Z2 H2 es2 v fp s2 hv2 k2 => sk_nx s2 hv2 k2
theorem rs_ret {fe : FE} (h : RS K E kp (fRet fe) D σ H) : tRet (RE K E fe) D σ H := by
  obtain ⟨Z, es, s, hv, k⟩ := h
  refine RE.so (ts := []) (n := fun p => .rt p.1 p.2) s hv (by rw [List.append_nil]; exact k) fun r Z2 H2 es2 v fp s2 hv2 k2 => ?_
  exact k2 Z2 H2 es2 v fp (Step.refl fun _ m => m) s2 (by rw [hv2]; exact Kept.refl _) rfl
theorem rs_if {ft : FT} {f g : FS} (h : RS K E kp (fIfS ft f g) D σ H) : tIfS (RT K E ft) (RS K E kp f) (RS K E kp g) D σ H := by
  obtain ⟨Z, es, s, hv, k⟩ := h
  refine RT.so (ts := []) (n := fun p => if p.1 = true then f p.2 else g p.2) s hv (by rw [List.append_nil]; exact k) fun b Z1 H1 es1 s1 hv1 k1 => ?_
  rw [List.append_nil] at k1
  cases b with
  | true => exact RS.of s1 hv1 k1
  | false => exact RS.of s1 hv1 k1
def Sl.kill (i : Nat) : Sl → Sl
  | .al j => if j = i then .un else .al j
  | s => s
def setS (i : Nat) (r : Sl) (ss : List Sl) : List Sl := match r with
  | .al j => if j = i then ss else (ss.map (Sl.kill i)).set i (.al j)
  | r => (ss.map (Sl.kill i)).set i r
def Ent.kill (i : Nat) (e : Ent) : Ent := ⟨e.v, e.s.kill i, e.fp⟩
theorem fps_kill (i : Nat) : ∀ l : List Ent, fpsOf (l.map (Ent.kill i)) = fpsOf l
  | [] => rfl
  | e :: r => by
    show e.fp ++ fpsOf (r.map (Ent.kill i)) = e.fp ++ fpsOf r
    rw [fps_kill i r]
theorem fps_set_sub {l : List Ent} {i : Nat} {e : Ent} : ∀ a ∈ fpsOf (l.set i e), a ∈ fpsOf l ∨ a ∈ e.fp := by
  intro a m
  obtain ⟨u, mu, ma⟩ := mem_fps.mp m
  rcases List.mem_or_eq_of_mem_set mu with q | q
  · exact .inl (mem_fps.mpr ⟨u, q, ma⟩)
  · subst q; exact .inr ma
theorem fps_set_nodup : ∀ {l : List Ent} {i : Nat} {e : Ent}, (fpsOf l ++ e.fp).Nodup → (fpsOf (l.set i e)).Nodup
  | [], _, _, h => by simp
  | u :: r, 0, e, h => by
    have h' : ((u.fp ++ fpsOf r) ++ e.fp).Nodup := h
    show (e.fp ++ fpsOf r).Nodup
    rw [List.nodup_append] at h'
    obtain ⟨h1, h2, h3⟩ := h'
    rw [List.nodup_append] at h1
    rw [List.nodup_append]
    exact ⟨h2, h1.2.1, fun a m b mb z => h3 b (List.mem_append_right _ mb) a m z.symm⟩
  | u :: r, i + 1, e, h => by
    have h' : ((u.fp ++ fpsOf r) ++ e.fp).Nodup := h
    show (u.fp ++ fpsOf (r.set i e)).Nodup
    rw [List.append_assoc, List.nodup_append] at h'
    rw [List.nodup_append]
    refine ⟨h'.1, fps_set_nodup h'.2.1, fun a m b mb z => ?_⟩
    rcases fps_set_sub b mb with q | q
    · exact h'.2.2 a m b (List.mem_append_left _ q) z
    · exact h'.2.2 a m b (List.mem_append_right _ q) z
/-- name i takes what is on the way -/
theorem Sat.assign {i : Nat} {v : Option V} {r : Sl} {fp : List Addr} (s : Sat K Z H es (ts ++ [⟨v, r, fp⟩])) (hi : i < es.length) (hts : ∀ e ∈ ts, ∀ j, e.s = .al j → j ≠ i) : ∃ es', Sat K Z H es' ts ∧ (∀ a ∈ fpsOf (es' ++ ts), a ∈ fpsOf (es ++ (ts ++ [⟨v, r, fp⟩]))) ∧ vsOf es' = (vsOf es).set i v ∧ ssOf es' = setS i r (ssOf es) := by
  have okR := s.ok ⟨v, r, fp⟩ (by simp)
  by_cases same : r = .al i
  · subst same
    obtain ⟨h0, u, x, h1, h2, h3⟩ := okR
    dsimp only at h3
    refine ⟨es, s.drop, fun a m => ?_, ?_, ?_⟩
    · rcases fps_app.mp m with q | q
      · exact fps_app.mpr (.inl q)
      · exact fps_app.mpr (.inr (fps_app.mpr (.inl q)))
    · apply List.ext_getElem?
      intro j
      rw [List.getElem?_set]
      by_cases q : i = j
      · subst q
        rw [if_pos rfl, if_pos (by simpa using hi), List.getElem?_map, h1]
        simp [h2, h3]
      · rw [if_neg q]
    · simp [setS]
  · refine ⟨(es.map (Ent.kill i)).set i ⟨v, r, fp⟩, ?_, ?_, ?_, ?_⟩
    · have nd := s.nd
      have e0 : (fpsOf es ++ (fpsOf ts ++ fp)).Nodup := by
        simpa [fpsOf, List.flatMap_append] using nd
      rw [List.nodup_append] at e0
      have nd1 : (fpsOf ((es.map (Ent.kill i)).set i ⟨v, r, fp⟩)).Nodup := by
        refine fps_set_nodup ?_
        rw [fps_kill, List.nodup_append]
        rw [List.nodup_append] at e0
        exact ⟨e0.1, e0.2.1.2.1, fun a m b mb => e0.2.2 a m b (List.mem_append_right _ mb)⟩
      have sub1 : ∀ a ∈ fpsOf ((es.map (Ent.kill i)).set i ⟨v, r, fp⟩), a ∈ fpsOf es ∨ a ∈ fp := fun a m => by
        rcases fps_set_sub a m with q | q
        · rw [fps_kill] at q; exact .inl q
        · exact .inr q
      refine ⟨s.sub, ?_, fun a m => ?_, fun e m => ?_⟩
      · simp only [fpsOf, List.flatMap_append]
        rw [List.nodup_append]
        have e1 := e0.2.1
        rw [List.nodup_append] at e1
        refine ⟨nd1, e1.1, fun a m b mb z => ?_⟩
        rcases sub1 a m with q | q
        · exact e0.2.2 a q b (List.mem_append_left _ mb) z
        · exact e1.2.2 b mb a q z.symm
      · refine s.zf a ?_
        rcases fps_app.mp m with q | q
        · rcases sub1 a q with q | q
          · exact fps_app.mpr (.inl q)
          · exact fps_app.mpr (.inr (fps_app.mpr (.inr (by simpa using q))))
        · exact fps_app.mpr (.inr (fps_app.mpr (.inl q)))
      · -- entries
        have go : ∀ e, EntOk K Z H es e → (∀ j, e.s = .al j → j ≠ i) → EntOk K Z H ((es.map (Ent.kill i)).set i ⟨v, r, fp⟩) e := fun e ok ne => by
          unfold EntOk at ok ⊢
          split
          · rename_i hs; rw [hs] at ok; exact ok
          · rename_i d hs; rw [hs] at ok; exact ok
          · rename_i t d hs; rw [hs] at ok; exact ok
          · rename_i j hs
            rw [hs] at ok
            obtain ⟨q0, u, x, q1, q2, q3⟩ := ok
            refine ⟨q0, u.kill i, x, ?_, q2, q3⟩
            rw [List.getElem?_set_ne (fun z => ne j hs z.symm), List.getElem?_map, q1]; rfl
        rcases List.mem_append.mp m with q | q
        · rcases List.mem_or_eq_of_mem_set q with q | q
          · obtain ⟨u, mu, rfl⟩ := List.mem_map.mp q
            have ok := s.ok u (List.mem_append_left _ mu)
            cases hs : u.s with
            | al j =>
              by_cases z : j = i
              · have : (Ent.kill i u).s = .un := by show u.s.kill i = _; rw [hs]; simp [Sl.kill, z]
                unfold EntOk at ok ⊢
                rw [hs] at ok
                rw [this]
                exact ok.1
              · have e2 : Ent.kill i u = u := by
                  obtain ⟨a, b, c⟩ := u
                  dsimp only at hs; subst hs
                  simp [Ent.kill, Sl.kill, z]
                rw [e2]
                exact go u ok fun j' h' => by rw [hs] at h'; cases h'; exact z
            | _ =>
              have e2 : Ent.kill i u = u := by
                obtain ⟨a, b, c⟩ := u
                dsimp only at hs; subst hs
                rfl
              rw [e2]
              exact go u ok fun j' h' => by rw [hs] at h'; cases h'
          · subst q
            exact go _ okR fun j h' => fun z => same (by rw [← z]; exact h')
        · exact go e (s.ok e (List.mem_append_right _ (List.mem_append_left _ q))) (hts e q)
    · intro a m
      rcases fps_app.mp m with q | q
      · rcases fps_set_sub a q with q | q
        · rw [fps_kill] at q; exact fps_app.mpr (.inl q)
        · exact fps_app.mpr (.inr (fps_app.mpr (.inr (by simpa using q))))
      · exact fps_app.mpr (.inr (fps_app.mpr (.inl q)))
    · show ((es.map (Ent.kill i)).set i _).map Ent.v = _
      rw [List.map_set]
      congr 1
      rw [List.map_map]; rfl
    · show ((es.map (Ent.kill i)).set i _).map Ent.s = _
      rw [List.map_set]
      have e3 : (es.map (Ent.kill i)).map Ent.s = (ssOf es).map (Sl.kill i) := by rw [List.map_map, List.map_map]; rfl
      rw [e3]
      unfold setS
      cases r with
      | al j =>
        have : j ≠ i := fun z => same (by rw [z])
        simp [this]
      | _ => rfl
def kset (i : Nat) (r : Sl) (ss : List Sl) : So := if i < ss.length then .nx (setS i r ss) else .stuck
def fSet (i : Nat) (fe : FE) : FS := fun ss => (fe ss).so fun p => kset i p.1 p.2
theorem kept_set {i : Nat} {v : Option V} (h : i ∉ kp) : Kept kp σ (σ.set i v) := ⟨by simp, fun j m => by
  rw [List.getElem?_set_ne]
  intro z; subst z; exact h m⟩
theorem sk_set {i : Nat} {v : V} {r : Sl} {fp : List Addr} (hk : i ∉ kp) (s : Sat K Z H es [⟨some v, r, fp⟩]) (hv : vsOf es = σ) (k : SK K E kp σ Z H (fpsOf (es ++ [⟨some v, r, fp⟩])) (kset i r (ssOf es)) D) : D.nx (σ.set i (some v)) H := by
  unfold kset at k
  split at k
  · rename_i hi
    obtain ⟨es', s', h1, h2, h3⟩ := Sat.assign (ts := []) s (by simpa using hi) (by simp)
    have := k Z H es' (Step.refl fun a m => h1 a (by rw [List.append_nil]; exact m)) s' (by rw [h2, hv]; exact kept_set hk) h3
    rw [h2, hv] at this
    exact this
  · exact k.elim
theorem rs_set {i : Nat} {fe : FE} (hk : i ∉ kp) (h : RS K E kp (fSet i fe) D σ H) : tAsg (RE K E fe) (gName i) D σ H := by
  obtain ⟨Z, es, s, hv, k⟩ := h
  exact RE.so (ts := []) (n := fun p => kset i p.1 p.2) s hv (by rw [List.append_nil]; exact k) fun r Z2 H2 es2 v fp s2 hv2 k2 => sk_set hk s2 hv2 k2
end
end Mi
namespace Mi
open PySem PySem.Spec PyProof.Rows L2 Rt
abbrev FG := Sl → FS
abbrev FI := List Sl → Ro (List D × List Sl)
instance (b : Sl) (i : Nat) : Decidable (∀ k, b = .al k → k ≠ i) := match b with
  | .al k => if h : k = i then isFalse fun z => z k rfl h else isTrue fun k' e => by cases e; exact h
  | .un => isTrue fun _ e => by cases e
  | .fz _ => isTrue fun _ e => by cases e
  | .ow _ _ => isTrue fun _ e => by cases e
abbrev goOn (R : L2.St → Hp → Prop) : Ends := { nx := R, rt := fun _ _ => False }
def RG (K : PySem.W.Frag) (E : EW) (kp : List Nat) (g : FG) : TG := fun v σ H R => ∃ Z es r fv, Sat K Z H es [⟨some v, r, fv⟩] ∧ vsOf es = σ ∧ SK K E kp σ Z H (fpsOf (es ++ [⟨some v, r, fv⟩])) (g r (ssOf es)) (goOn R)
def gsL : List FG → List D → FS
  | [], [], ss => .nx ss
  | g :: gs, d :: ds, ss => (g (.fz d) ss).seq (gsL gs ds)
  | _, _, _ => .stuck
def RGs (K : PySem.W.Frag) (E : EW) (kp : List Nat) (gs : List FG) : TGs := fun vs σ H R => ∃ Z es ds, Sat K Z H es [] ∧ FReps K Z vs ds ∧ vsOf es = σ ∧ SK K E kp σ Z H (fpsOf es) (gsL gs ds (ssOf es)) (goOn R)
def gN (i : Nat) : FG := fun r ss => kset i r ss
def gT (n : Nat) (gs : List FG) : FG := fun r ss => match r.val ss with
  | some (t, .tup ds) => if t.flat = true ∧ ds.length = n then gsL gs ds ss else .stuck
  | some (t, .lst ds) => if t.flat = true ∧ ds.length = n then gsL gs ds ss else .stuck
  | _ => .stuck
section
variable {K : PySem.W.Frag} {E : EW} {kp : List Nat} {σ σ1 : L2.St} {Z H Z' H' Z1 H1 : Hp} {F F1 : List Addr} {es ts us es1 : List Ent} {D D' : Ends} {o : So} {v : V} {R : L2.St → Hp → Prop}
theorem SK.ends (k : SK K E kp σ Z H F o D) (h1 : ∀ ss, o = .nx ss → ∀ Z' H' es', Step Z H F Z' H' (fpsOf es') → Sat K Z' H' es' [] → Kept kp σ (vsOf es') → ssOf es' = ss → D.nx (vsOf es') H' → D'.nx (vsOf es') H')
    (h2 : ∀ σ' H', D.bk σ' H' → D'.bk σ' H') (h3 : ∀ ss, o = .ct ss → ∀ Z' H' es', Step Z H F Z' H' (fpsOf es') → Sat K Z' H' es' [] → Kept kp σ (vsOf es') → ssOf es' = ss → D.ct (vsOf es') H' → D'.ct (vsOf es') H') (h4 : ∀ v H', D.rt v H' → D'.rt v H') : SK K E kp σ Z H F o D' := by
  unfold SK at k ⊢
  split at k
  · exact fun Z' H' es' a s b c => h1 _ rfl Z' H' es' a s b c (k Z' H' es' a s b c)
  · exact fun Z' H' es' a s b c => h2 _ _ (k Z' H' es' a s b c)
  · exact fun Z' H' es' a s b c => h3 _ rfl Z' H' es' a s b c (k Z' H' es' a s b c)
  · exact fun Z' H' es' v fv a s b c => h4 _ _ (k Z' H' es' v fv a s b c)
  · exact k
  · exact k
theorem rg_name {i : Nat} (hk : i ∉ kp) (h : RG K E kp (gN i) v σ H R) : gName i v σ H R := by
  obtain ⟨Z, es, r, fv, s, hv, k⟩ := h
  exact sk_set (D := goOn R) hk s hv k
theorem SK.of_seq {g : FS} (k : SK K E kp σ Z H F (o.seq g) (goOn R)) : SK K E kp σ Z H F o (goOn fun σ' H' => ∃ Z' es', Sat K Z' H' es' [] ∧ vsOf es' = σ' ∧ Step Z H F Z' H' (fpsOf es') ∧ Kept kp σ σ' ∧ o = .nx (ssOf es') ∧ SK K E kp σ' Z' H' (fpsOf es') (g (ssOf es')) (goOn R)) := by
  cases o with
  | nx ss =>
    intro Z' H' es' st s kd e
    refine ⟨Z', es', s, rfl, st, kd, by rw [e], ?_⟩
    rw [e]
    exact SK.from st kd k
  | rt r ss => exact fun Z' H' es' v fv a s b c => (k Z' H' es' v fv a s b c).elim
  | bk ss => exact fun Z' H' es' a s b c => (k Z' H' es' a s b c).elim
  | ct ss => exact fun Z' H' es' a s b c => (k Z' H' es' a s b c).elim
  | exc c fs ss => exact k
  | stuck => exact k
/-- .. with what is known of further values -/
theorem rgs_nil {vs : List V} (h : RGs K E kp [] vs σ H R) : gNil vs σ H R := by
  obtain ⟨Z, es, ds, s, fr, hv, k⟩ := h
  cases fr with
  | nil =>
    have := k Z H es (Step.refl fun _ m => m) s (by rw [hv]; exact Kept.refl _) rfl
    rw [hv] at this
    exact ⟨rfl, this⟩
  | cons _ _ => exact k.elim
theorem rgs_cons {g : FG} {gs : List FG} {vs : List V} (h : RGs K E kp (g :: gs) vs σ H R) : gCons (RG K E kp g) (RGs K E kp gs) vs σ H R := by
  obtain ⟨Z, es, ds, s, fr, hv, k⟩ := h
  cases fr with
  | nil => exact k.elim
  | cons q t =>
    rename_i v d vs ds
    refine ⟨v, vs, rfl, Z, es, .fz d, [], ⟨s.sub, ?_, fun a m => s.zf a ?_, fun e m => ?_⟩, hv, ?_⟩
    · simpa [fpsOf, List.flatMap_append] using s.nd
    · rcases fps_app.mp m with z | z
      · rw [List.append_nil]; exact z
      · simp at z
    · rcases List.mem_append.mp m with z | z
      · exact s.ok e (List.mem_append_left _ z)
      · obtain rfl := List.mem_singleton.mp z
        exact ⟨v, rfl, q, rfl⟩
    · have k' : SK K E kp σ Z H (fpsOf (es ++ [⟨some v, .fz d, []⟩])) ((g (.fz d) (ssOf es)).seq (gsL gs ds)) (goOn R) := SK.from (Step.refl fun a m => by rcases fps_app.mp m with z | z; exact z; simp at z) (Kept.refl _) k
      refine (SK.of_seq k').ends (fun ss _ Z' H' es' _ _ _ _ w => ?_) (fun _ _ w => w) (fun _ _ Z' H' es' _ _ _ _ w => w) (fun _ _ w => w)
      obtain ⟨Z2, es2, s2, hv2, st2, _, _, k2⟩ := w
      exact ⟨Z2, es2, ds, s2, t.mono st2.z, hv2, k2⟩
/-- a, b, .. = a tuple or a list of that length -/
def gSeqT (K : PySem.W.Frag) (n : Nat) (t : TGs) : TG := fun v σ H Q => gTup K n t v σ H Q ∨ gLst K n t v σ H Q
theorem pg_seqT {X : Cx} {pos : Pos} {es : List Expr} {k : Nat} {t : TGs} {n : Nat} (hc : X.calm = true) (h : PGs X es t)
    (hn : (assignEach es X.env).length = n := by rfl) (hst : (assignEach es X.env).findIdx? (·.1) = none := by rfl) : PG X (.Tuple es k pos) (gSeqT X.K n t) := by
  have a := pg_tup (pos := pos) (k := k) hc h hn hst
  have b := pg_lst (pos := pos) (k := k) hc h hn hst
  refine ⟨fun pins s σ H v u Q I r hw => ?_⟩
  rcases hw with hw | hw
  · exact a.run pins s σ H v u Q I r hw
  · exact b.run pins s σ H v u Q I r hw
theorem rg_tup {n : Nat} {gs : List FG} (h : RG K E kp (gT n gs) v σ H R) : gSeqT K n (RGs K E kp gs) v σ H R := by
  obtain ⟨Z, es, r, fv, s, hv, k⟩ := h
  unfold gT at k
  split at k
  · rename_i t ds e
    split at k
    · rename_i hc
      obtain ⟨f, rp, _⟩ := s.val (e := ⟨some v, r, fv⟩) (by simp) rfl e
      obtain ⟨a, vs, rfl, q, fr⟩ := rep_tup hc.1 s.sub rp
      refine .inl ⟨a, vs, rfl, q, by rw [fr.len]; exact hc.2, Z, es, ds, s.bare, fr, hv, SK.from (Step.refl fun a m => fps_app.mpr (.inl m)) (Kept.refl _) k⟩
    · exact k.elim
  · rename_i t ds e
    split at k
    · rename_i hc
      obtain ⟨f, rp, _⟩ := s.val (e := ⟨some v, r, fv⟩) (by simp) rfl e
      obtain ⟨a, vs, rfl, q, fr⟩ := rep_lst hc.1 s.sub rp
      refine .inr ⟨a, vs, rfl, .of q, by rw [fr.len]; exact hc.2, Z, es, ds, s.bare, fr, hv, SK.from (Step.refl fun a m => fps_app.mpr (.inl m)) (Kept.refl _) k⟩
    · exact k.elim
  · exact k.elim
def fAsg (g : FG) (fe : FE) : FS := fun ss => (fe ss).so fun p => g p.1 p.2
theorem SK.plain (k : SK K E kp σ Z H F o (goOn D.nx)) : SK K E kp σ Z H F o D := k.ends (fun _ _ _ _ _ _ _ _ _ w => w) (fun _ _ w => w.elim) (fun _ _ _ _ _ _ _ _ _ w => w.elim) (fun _ _ w => w.elim)
/-- an outcome of targets: on, or an error -/
def OnOnly (o : So) : Prop := match o with
  | .nx _ => True
  | .exc _ _ _ => True
  | .stuck => True
  | _ => False
theorem SK.only (ho : OnOnly o) (k : SK K E kp σ Z H F o D) : SK K E kp σ Z H F o (goOn D.nx) := by
  cases o with
  | nx ss => exact k
  | exc c fs ss => exact k
  | stuck => exact k
  | rt r ss => exact ho.elim
  | bk ss => exact ho.elim
  | ct ss => exact ho.elim
theorem on_set (i : Nat) (r : Sl) (ss : List Sl) : OnOnly (kset i r ss) := by unfold kset; split <;> trivial
theorem on_seq {o : So} {g : FS} (h : OnOnly o) (h2 : ∀ ss, OnOnly (g ss)) : OnOnly (o.seq g) := by
  cases o with
  | nx ss => exact h2 ss
  | exc c fs ss => trivial
  | stuck => trivial
  | rt r ss => exact h.elim
  | bk ss => exact h.elim
  | ct ss => exact h.elim
theorem on_gsL : ∀ (gs : List FG) (ds : List Mi.D) (ss : List Sl), (∀ g ∈ gs, ∀ r ss, OnOnly (g r ss)) → OnOnly (gsL gs ds ss)
  | [], [], _, _ => trivial
  | g :: gs, d :: ds, ss, h => on_seq (h g List.mem_cons_self _ _) fun ss' => on_gsL gs ds ss' fun g' m => h g' (List.mem_cons_of_mem _ m)
  | [], _ :: _, _, _ => trivial
  | _ :: _, [], _, _ => trivial
theorem on_gT {n : Nat} {gs : List FG} (h : ∀ g ∈ gs, ∀ r ss, OnOnly (g r ss)) (r : Sl) (ss : List Sl) : OnOnly (gT n gs r ss) := by
  unfold gT
  split
  · split
    · exact on_gsL _ _ _ h
    · trivial
  · split
    · exact on_gsL _ _ _ h
    · trivial
  · trivial
theorem rs_asg {g : FG} {fe : FE} (ho : ∀ r ss, OnOnly (g r ss)) (h : RS K E kp (fAsg g fe) D σ H) : tAsg (RE K E fe) (RG K E kp g) D σ H := by
  obtain ⟨Z, es, s, hv, k⟩ := h
  refine RE.so (ts := []) (n := fun p => g p.1 p.2) s hv (by rw [List.append_nil]; exact k) fun r Z2 H2 es2 v fp s2 hv2 k2 => ?_
  exact ⟨Z2, es2, r, fp, s2, hv2, k2.only (ho _ _)⟩
end
/-- a turn's outcome, then what is to come -/
def So.loop (o : So) (g : FS) : So := match o with
  | .nx ss => g ss
  | .ct ss => g ss
  | .bk ss => .nx ss
  | o => o
def fWhileN (ft : FT) (f : FS) : Nat → FS
  | 0, _ => .stuck
  | n + 1, ss => (ft ss).so fun p => if p.1 = true then (f p.2).loop (fWhileN ft f n) else .nx p.2
open Classical in
noncomputable def fWhile (ft : FT) (f : FS) : FS := fun ss => if h : ∃ n, fWhileN ft f n ss ≠ .stuck then fWhileN ft f h.choose ss else .stuck
theorem loop_mono {o : So} {g g' : FS} (h : ∀ ss, g ss ≠ .stuck → g' ss = g ss) (n : o.loop g ≠ .stuck) : o.loop g' = o.loop g := by
  cases o <;> first | rfl | exact h _ n
theorem fWhileN_mono (ft : FT) (f : FS) : ∀ (n : Nat) (ss : List Sl), fWhileN ft f n ss ≠ .stuck → fWhileN ft f (n + 1) ss = fWhileN ft f n ss
  | 0, _, h => absurd rfl h
  | n + 1, ss, h => by
    unfold fWhileN at h
    show (ft ss).so (fun p => if p.1 = true then (f p.2).loop (fWhileN ft f (n + 1)) else .nx p.2) = (ft ss).so fun p => if p.1 = true then (f p.2).loop (fWhileN ft f n) else .nx p.2
    cases hf : ft ss with
    | exc c fs s => rfl
    | stuck => rfl
    | ok p =>
      rw [hf] at h
      unfold Ro.so at h ⊢
      dsimp only at h ⊢
      split
      · rename_i hp
        rw [if_pos hp] at h
        exact loop_mono (fWhileN_mono ft f n) h
      · rfl
theorem fWhileN_le (ft : FT) (f : FS) {n : Nat} {ss : List Sl} (h : fWhileN ft f n ss ≠ .stuck) : ∀ k, fWhileN ft f (n + k) ss = fWhileN ft f n ss
  | 0 => rfl
  | k + 1 => by
    have ih := fWhileN_le ft f h k
    rw [← Nat.add_assoc, fWhileN_mono ft f (n + k) ss (by rw [ih]; exact h), ih]
theorem fWhile_eqN (ft : FT) (f : FS) {n : Nat} {ss : List Sl} (h : fWhileN ft f n ss ≠ .stuck) : fWhile ft f ss = fWhileN ft f n ss := by
  have ex : ∃ n, fWhileN ft f n ss ≠ .stuck := ⟨n, h⟩
  unfold fWhile
  rw [dif_pos ex]
  have hc := ex.choose_spec
  rcases Nat.le_total n ex.choose with l | l
  · obtain ⟨k, e⟩ := Nat.exists_eq_add_of_le l
    rw [e, fWhileN_le ft f h]
  · obtain ⟨k, e⟩ := Nat.exists_eq_add_of_le l
    have := fWhileN_le ft f hc k
    rw [← e] at this
    exact this.symm
theorem fWhile_at (ft : FT) (f : FS) {ss : List Sl} (h : fWhile ft f ss ≠ .stuck) : ∃ n, fWhileN ft f n ss = fWhile ft f ss ∧ fWhileN ft f n ss ≠ .stuck := by
  by_cases ex : ∃ n, fWhileN ft f n ss ≠ .stuck
  · obtain ⟨n, hn⟩ := ex
    exact ⟨n, (fWhile_eqN ft f hn).symm, hn⟩
  · unfold fWhile at h
    rw [dif_neg ex] at h
    exact absurd rfl h
/-- the while's own equation -/
theorem fWhile_eq (ft : FT) (f : FS) (ss : List Sl) : fWhile ft f ss = (ft ss).so fun p => if p.1 = true then (f p.2).loop (fWhile ft f) else .nx p.2 := by
  cases hf : ft ss with
  | exc c fs s =>
    have : fWhileN ft f 1 ss = .exc c fs s := by unfold fWhileN; rw [hf]; rfl
    rw [fWhile_eqN ft f (n := 1) (by rw [this]; intro z; cases z), this]; rfl
  | stuck =>
    have : ∀ n, fWhileN ft f n ss = .stuck := fun n => by
      cases n with
      | zero => rfl
      | succ n => unfold fWhileN; rw [hf]; rfl
    unfold fWhile
    rw [dif_neg (fun ⟨n, h⟩ => h (this n))]; rfl
  | ok p =>
    have step : ∀ n, fWhileN ft f (n + 1) ss = if p.1 = true then (f p.2).loop (fWhileN ft f n) else .nx p.2 := fun n => by
      show (ft ss).so _ = _
      rw [hf]; rfl
    show _ = if p.1 = true then (f p.2).loop (fWhile ft f) else .nx p.2
    by_cases hp : p.1 = true
    · simp only [hp, if_true] at step ⊢
      have at_ : ∀ s, (fun n => fWhileN ft f n s) = fun n => fWhileN ft f n s := fun _ => rfl
      have key : ∀ s, (∀ n, fWhileN ft f (n + 1) ss = fWhileN ft f n s) → fWhile ft f ss = fWhile ft f s := fun s hs => by
        by_cases ex : ∃ n, fWhileN ft f n s ≠ .stuck
        · obtain ⟨n, hn⟩ := ex
          rw [fWhile_eqN ft f hn, fWhile_eqN ft f (n := n + 1) (by rw [hs]; exact hn), hs]
        · have e1 : fWhile ft f s = .stuck := by unfold fWhile; rw [dif_neg ex]
          have e2 : fWhile ft f ss = .stuck := by
            unfold fWhile
            rw [dif_neg]
            rintro ⟨n, hn⟩
            cases n with
            | zero => exact hn rfl
            | succ n => exact ex ⟨n, by rw [← hs]; exact hn⟩
          rw [e1, e2]
      cases ho : f p.2 with
      | nx s => rw [ho] at step; exact key s step
      | ct s => rw [ho] at step; exact key s step
      | bk s => rw [ho] at step; rw [fWhile_eqN ft f (n := 1) (by rw [step]; intro z; cases z), step]; rfl
      | rt r s => rw [ho] at step; rw [fWhile_eqN ft f (n := 1) (by rw [step]; intro z; cases z), step]; rfl
      | exc c fs s => rw [ho] at step; rw [fWhile_eqN ft f (n := 1) (by rw [step]; intro z; cases z), step]; rfl
      | stuck =>
        rw [ho] at step
        have : ∀ n, fWhileN ft f n ss = .stuck := fun n => by
          cases n with
          | zero => rfl
          | succ n => exact step n
        unfold fWhile
        rw [dif_neg (fun ⟨n, h⟩ => h (this n))]; rfl
    · have step' : fWhileN ft f 1 ss = .nx p.2 := by rw [step 0, if_neg hp]
      rw [if_neg hp, fWhile_eqN ft f (n := 1) (by rw [step']; intro z; cases z), step']
section
variable {K : PySem.W.Frag} {E : EW} {kp : List Nat} {σ σ1 : L2.St} {Z H Z' H' Z1 H1 : Hp} {F F1 : List Addr} {es ts us es1 : List Ent} {D D' : Ends} {o : So} {v : V} {R : L2.St → Hp → Prop}
/-- a turn's body -/
theorem SK.loop {g : FS} {N : L2.St → Hp → Prop} (hN : ∀ Z' H' es', Le Z Z' → Sat K Z' H' es' [] → SK K E kp (vsOf es') Z' H' (fpsOf es') (g (ssOf es')) D → N (vsOf es') H') (k : SK K E kp σ Z H F (o.loop g) D) : SK K E kp σ Z H F o { D with nx := N, ct := N, bk := D.nx } := by
  cases o with
  | nx ss =>
    intro Z' H' es' st s kd e
    refine hN Z' H' es' st.z s ?_
    rw [e]
    exact SK.from st kd k
  | ct ss =>
    intro Z' H' es' st s kd e
    refine hN Z' H' es' st.z s ?_
    rw [e]
    exact SK.from st kd k
  | bk ss => exact k
  | rt r ss => exact k
  | exc c fs ss => exact k
  | stuck => exact k
theorem SK.loopL {g : FS} {N : L2.St → Hp → Prop} (_ : Sat K Z H es []) (hN : ∀ Z' H' es', Step Z H (fpsOf es) Z' H' (fpsOf es') → Sat K Z' H' es' [] → SK K E kp (vsOf es') Z' H' (fpsOf es') (g (ssOf es')) D → N (vsOf es') H') (k : SK K E kp σ Z H (fpsOf es) (o.loop g) D) : SK K E kp σ Z H (fpsOf es) o { D with nx := N, ct := N, bk := D.nx } := by
  cases o with
  | nx ss =>
    intro Z' H' es' st s kd e
    refine hN Z' H' es' st s ?_
    rw [e]
    exact SK.from st kd k
  | ct ss =>
    intro Z' H' es' st s kd e
    refine hN Z' H' es' st s ?_
    rw [e]
    exact SK.from st kd k
  | bk ss => exact k
  | rt r ss => exact k
  | exc c fs ss => exact k
  | stuck => exact k
theorem rs_while {ft : FT} {f : FS} (h : RS K E kp (fWhile ft f) D σ H) : tWhile (RT K E ft) (RS K E kp f) D σ H := by
  obtain ⟨Z, es, s, hv, k⟩ := h
  have ns : fWhile ft f (ssOf es) ≠ .stuck := fun z => by rw [z] at k; exact k
  obtain ⟨n, hn, _⟩ := fWhile_at ft f ns
  rw [← hn] at k
  refine ⟨fun m σ H => ∃ Z es, Sat K Z H es [] ∧ vsOf es = σ ∧ SK K E kp σ Z H (fpsOf es) (fWhileN ft f m (ssOf es)) D, ⟨n, Z, es, s, hv, k⟩, ?_⟩
  rintro m σ H ⟨Z, es, s, hv, k⟩
  cases m with
  | zero => exact k.elim
  | succ m =>
    refine RT.so (ts := []) (n := fun p => if p.1 = true then (f p.2).loop (fWhileN ft f m) else .nx p.2) s hv (by rw [List.append_nil]; exact k) fun b Z1 H1 es1 s1 hv1 k1 => ?_
    rw [List.append_nil] at k1
    cases b with
    | true =>
      rw [if_pos rfl]
      refine ⟨fun σ' H' => ∃ Z es, Sat K Z H' es [] ∧ vsOf es = σ' ∧ SK K E kp σ' Z H' (fpsOf es) (fWhileN ft f m (ssOf es)) D, fun σ' H' q => ⟨m, Nat.lt_succ_self m, q⟩, RS.of s1 hv1 ?_⟩
      exact SK.loop (fun Z' H' es' _ s' k' => ⟨Z', es', s', rfl, k'⟩) k1
    | false =>
      rw [if_neg (by decide)]
      exact sk_nx (ts := []) s1 hv1 (by rw [List.append_nil]; exact k1)
/-- what is locked stays so -/
def LkIn (L Z H : Hp) : Prop := ∀ a o, L a = some o → H a = some o ∧ (¬ lockable o ∧ ¬ isTbl o) ∧ ∃ z, Z a = some z
theorem LkIn.step {L Z H Z1 H1 : Hp} {F F1 : List Addr} (l : LkIn L Z H) (st : Step Z H F Z1 H1 F1) (hz : ∀ a ∈ F, Z a = none) : LkIn L Z1 H1 := fun a o e => by
  obtain ⟨h1, h2, z, h3⟩ := l a o e
  have n : a ∉ F := fun m => by rw [hz a m] at h3; cases h3
  refine ⟨?_, h2, z, st.z _ _ h3⟩
  rcases st.keep a o h1 n with k | ⟨_, k⟩
  · exact k
  · exact (k.no h2.1 h2.2).elim
theorem LkIn.no {Z H : Hp} : LkIn (fun _ => none) Z H := fun _ _ e => by cases e
/-- what a walk yields -/
structure Walk (K : PySem.W.Frag) (Z0 L : Hp) (J : It) (ds : List Mi.D) : Prop where
  go : ∀ i Z H, Le Z0 Z → SubM K Z H → LkIn L Z H → i < ds.length → J.go i H
  stop : ∀ Z H, Le Z0 Z → SubM K Z H → LkIn L Z H → J.stop ds.length H
  yld : ∀ i Z H x H' d, Le Z0 Z → SubM K Z H → LkIn L Z H → ds[i]? = some d → J.yld i H x H' → ∃ Z', New K Z H Z' H' x (.fz d) []
def RI (K : PySem.W.Frag) (E : EW) (f : FI) : TI := fun σ H R => ∃ Z es, Sat K Z H es [] ∧ vsOf es = σ ∧ Kon K E σ Z H (fpsOf es) (f (ssOf es)) (fun _ => []) fun ds Z' H' es' _ => ∀ J L, LkIn L Z' H' → Walk K Z' L J ds → R J H'
def forD (g : FG) (f : FS) : List Mi.D → FS
  | [], ss => .nx ss
  | d :: ds, ss => (g (.fz d) ss).seq fun s => (f s).loop (forD g f ds)
def fFor (fi : FI) (g : FG) (f : FS) : FS := fun ss => (fi ss).so fun p => forD g f p.1 p.2
theorem RI.so {f : FI} {n : List Mi.D × List Sl → So} {R : It → Hp → Prop} (s : Sat K Z1 H1 es1 []) (hv : vsOf es1 = σ) (k : SK K E kp σ Z1 H1 (fpsOf es1) ((f (ssOf es1)).so n) D)
    (h : ∀ ds Z2 H2 es2 J L, LkIn L Z2 H2 → Walk K Z2 L J ds → Sat K Z2 H2 es2 [] → vsOf es2 = σ → SK K E kp σ Z2 H2 (fpsOf es2) (n (ds, ssOf es2)) D → R J H2) : RI K E f σ H1 R := by
  refine ⟨Z1, es1, s, hv, ?_⟩
  refine kon_so (ts := []) (kp := kp) (D := D) s hv (by rw [List.append_nil]; exact k) fun a Z2 H2 es2 us e1 s2 e2 k2 J L lk w => ?_
  obtain rfl : us = [] := by simpa using e1
  refine h a Z2 H2 es2 J L lk w s2 e2 ?_
  simpa only [List.append_nil] using k2
theorem rs_for {fi : FI} {g : FG} {f : FS} (ho : ∀ r ss, OnOnly (g r ss)) (h : RS K E kp (fFor fi g f) D σ H) : tFor (RI K E fi) (RG K E kp g) (RS K E kp f) D σ H := by
  obtain ⟨Z, es, s, hv, k⟩ := h
  refine RI.so (n := fun p => forD g f p.1 p.2) s hv k fun ds Z2 H2 es2 J L lk w s2 hv2 k2 => ?_
  refine ⟨fun i m σ H => m = ds.length - i ∧ i ≤ ds.length ∧ ∃ Z es, Le Z2 Z ∧ LkIn L Z H ∧ Sat K Z H es [] ∧ vsOf es = σ ∧ SK K E kp σ Z H (fpsOf es) (forD g f (ds.drop i) (ssOf es)) D,
    ⟨ds.length, by simp, Nat.zero_le _, Z2, es2, Le.refl _, lk, s2, hv2, k2⟩, ?_⟩
  rintro i m σ H ⟨rfl, hi, Z, es, le, lkk, s, hv, k⟩
  by_cases hlt : i < ds.length
  · have e0 : ds.drop i = ds[i] :: ds.drop (i + 1) := List.drop_eq_getElem_cons hlt
    rw [e0] at k
    refine .inr ⟨w.go i Z H le s.sub lkk hlt, fun σ' H' => ∃ Z es, Le Z2 Z ∧ LkIn L Z H' ∧ Sat K Z H' es [] ∧ vsOf es = σ' ∧ SK K E kp σ' Z H' (fpsOf es) (forD g f (ds.drop (i + 1)) (ssOf es)) D,
      fun σ' H' q => ⟨ds.length - (i + 1), by omega, rfl, hlt, q⟩, fun x H' y => ?_⟩
    obtain ⟨Z', n⟩ := w.yld i Z H x H' ds[i] le s.sub lkk (List.getElem?_eq_getElem hlt) y
    obtain ⟨s', st'⟩ := s.new (ts := []) n
    refine ⟨Z', es, .fz ds[i], [], s', hv, ?_⟩
    have k' : SK K E kp σ Z' H' (fpsOf (es ++ [⟨some x, .fz ds[i], []⟩])) ((g (.fz ds[i]) (ssOf es)).seq fun s => (f s).loop (forD g f (ds.drop (i + 1)))) D := SK.from (st'.wide fun a m => by rw [List.append_nil] at m; exact m) (Kept.refl _) k
    -- the target, then the body
    cases hg : g (.fz ds[i]) (ssOf es) with
    | nx ss1 =>
      rw [hg] at k'
      intro Z3 H3 es3 st3 s3 kd3 e3
      have lk3 : LkIn L Z3 H3 := (lkk.step n.step (fun a m => by cases m)).step st3 (fun a m => s'.zf a (by simpa using m))
      refine RS.of s3 rfl (SK.loopL (g := forD g f (ds.drop (i + 1))) (D := D) s3 (fun Z4 H4 es4 st4 s4 k4 => ⟨Z4, es4, le.tr (n.step.z.tr (st3.z.tr st4.z)), lk3.step st4 (fun a m => s3.zf a (by simpa using m)), s4, rfl, k4⟩) ?_)
      rw [e3]
      exact SK.from st3 kd3 k'
    | exc c fs ss1 => rw [hg] at k'; exact k'
    | stuck => rw [hg] at k'; exact k'
    | rt r ss1 => have := ho (.fz ds[i]) (ssOf es); rw [hg] at this; exact this.elim
    | bk ss1 => have := ho (.fz ds[i]) (ssOf es); rw [hg] at this; exact this.elim
    | ct ss1 => have := ho (.fz ds[i]) (ssOf es); rw [hg] at this; exact this.elim
  · have e : i = ds.length := by omega
    subst e
    rw [List.drop_length] at k
    exact .inl ⟨w.stop Z H le s.sub lkk, sk_nx (ts := []) s hv (by rw [List.append_nil]; exact k)⟩
end
end Mi
namespace Mi
open PySem PySem.Spec PyProof.Rows L2 Rt
inductive Fo where
  | ret (r : Sl) (as : List Sl) | exc (c : Str) (fs : List (Str × D)) (as : List Sl) | stuck
abbrev Fm := List Sl → Fo
def Vok (ts ts' : List Ent) : Prop := ts'.length = ts.length ∧ ∀ (k : Nat) (e e' : Ent), ts[k]? = some e → ts'[k]? = some e' → e'.s = .un ∨ e'.v = e.v
/-- what a def promises: as its function on entries says -/
def spM (K : PySem.W.Frag) (m : Fm) : Sp := fun vs H Q E0 => ∃ Z ts, Sat K Z H [] ts ∧ vsOf ts = vs.map some ∧ match m (ssOf ts) with
  | .ret r as' => ∀ Z' H' ts' v fv, Step Z H (fpsOf ts) Z' H' (fpsOf (ts' ++ [⟨some v, r, fv⟩])) → Sat K Z' H' ts' [⟨some v, r, fv⟩] → Vok ts ts' → ssOf ts' = as' → Q v H'
  | .exc c fs as' => ∀ Z' H' ts' d, Step Z H (fpsOf ts) Z' H' (fpsOf ts') → Sat K Z' H' ts' [] → Vok ts ts' → ssOf ts' = as' → ExcD K Z' H' d fs → E0 (.ref (He.ga K c)) (some d) H'
  | .stuck => False
def Sl.out (keep : Bool) : Sl → Sl
  | .al _ => .un
  | s => if keep then s else .un
def outs (kp : List Nat) : Nat → List Sl → List Sl
  | _, [] => []
  | i, s :: r => s.out (decide (i ∈ kp)) :: outs kp (i + 1) r
def finR (kp : List Nat) (np : Nat) (r : Sl) (ss : List Sl) : Fo := match r with
  | .al i => if i < np ∧ i ∈ kp then .ret (.al i) (outs kp 0 (ss.take np)) else match ss[i]? with
    | some (.fz d) => .ret (.fz d) (outs kp 0 (ss.take np))
    | some (.ow t d) => .ret (.ow t d) (outs kp 0 ((ss.set i .un).take np))
    | _ => .stuck
  | .un => .stuck
  | r => .ret r (outs kp 0 (ss.take np))
def finO (kp : List Nat) (np : Nat) (o : So) : Fo := match o with
  | .nx ss => if np ≤ ss.length then .ret (.fz .non) (outs kp 0 (ss.take np)) else .stuck
  | .rt r ss => if np ≤ ss.length then finR kp np r ss else .stuck
  | .exc c fs ss => if np ≤ ss.length then .exc c fs (outs kp 0 (ss.take np)) else .stuck
  | _ => .stuck
/-- the function of a def with n names, np parameters; kp: those that are given no other value -/
def body (n np : Nat) (kp : List Nat) (f : FS) : Fm := fun as => if as.length = np then finO kp np (f (as ++ List.replicate (n - np) .un)) else .stuck
section
variable {K : PySem.W.Frag} {E : EW} {kp : List Nat} {σ σ1 : L2.St} {Z H Z' H' Z1 H1 : Hp} {F F1 : List Addr} {es ts us es1 pre : List Ent} {v : V}
def Ent.out (keep : Bool) (e : Ent) : Ent := match e.s.out keep with
  | .un => ⟨e.v, .un, []⟩
  | s => ⟨e.v, s, e.fp⟩
def outsE (kp : List Nat) : Nat → List Ent → List Ent
  | _, [] => []
  | i, e :: r => e.out (decide (i ∈ kp)) :: outsE kp (i + 1) r
theorem out_s (k : Bool) (e : Ent) : (e.out k).s = e.s.out k := by
  unfold Ent.out
  split
  · rename_i h; exact h.symm
  · rfl
theorem out_v (k : Bool) (e : Ent) : (e.out k).v = e.v := by
  unfold Ent.out
  split <;> rfl
theorem outsE_s (kp : List Nat) : ∀ (i : Nat) (l : List Ent), ssOf (outsE kp i l) = outs kp i (ssOf l)
  | _, [] => rfl
  | i, e :: r => by
    show (e.out _).s :: ssOf (outsE kp (i + 1) r) = e.s.out _ :: outs kp (i + 1) (ssOf r)
    rw [outsE_s kp (i + 1) r, out_s]
theorem out_fp (k : Bool) (e : Ent) : (e.out k).fp = e.fp ∨ (e.out k).fp = [] := by
  unfold Ent.out
  split
  · exact .inr rfl
  · exact .inl rfl
theorem outsE_sub (kp : List Nat) : ∀ (i : Nat) (l : List Ent), (fpsOf (outsE kp i l)).Sublist (fpsOf l)
  | _, [] => .slnil
  | i, e :: r => by
    show ((e.out _).fp ++ fpsOf (outsE kp (i + 1) r)).Sublist (e.fp ++ fpsOf r)
    have ih := outsE_sub kp (i + 1) r
    rcases out_fp (decide (i ∈ kp)) e with h | h
    · rw [h]; exact List.Sublist.append_left ih _
    · rw [h]; exact ih.trans (List.sublist_append_right _ _)
theorem out_ok {k : Bool} {e : Ent} (ok : EntOk K Z H es e) : EntOk K Z H us (e.out k) := by
  obtain ⟨ev, s, fp⟩ := e
  cases s with
  | un => unfold EntOk at ok; dsimp only at ok; cases k <;> rfl
  | al i => cases k <;> rfl
  | fz d => cases k <;> first | rfl | exact ok
  | ow t d => cases k <;> first | rfl | exact ok
theorem outsE_mem (kp : List Nat) : ∀ {i : Nat} {l : List Ent} {e' : Ent}, e' ∈ outsE kp i l → ∃ e ∈ l, ∃ k, e' = e.out k
  | _, [], _, h => by cases h
  | i, e :: r, e', h => by
    rcases List.mem_cons.mp h with h | h
    · exact ⟨e, List.mem_cons_self, _, h⟩
    · obtain ⟨u, m, q⟩ := outsE_mem kp h
      exact ⟨u, List.mem_cons_of_mem _ m, q⟩
theorem outsE_len (kp : List Nat) : ∀ (i : Nat) (l : List Ent), (outsE kp i l).length = l.length
  | _, [] => rfl
  | i, e :: r => congrArg (· + 1) (outsE_len kp (i + 1) r)
theorem outsE_get (kp : List Nat) : ∀ {i : Nat} {l : List Ent} {j : Nat}, (outsE kp i l)[j]? = l[j]?.map fun e => e.out (decide (i + j ∈ kp))
  | _, [], _ => by simp [outsE]
  | i, e :: r, 0 => by simp [outsE]
  | i, e :: r, j + 1 => by
    have := outsE_get kp (i := i + 1) (l := r) (j := j)
    simp only [outsE, List.getElem?_cons_succ, this]
    rw [show i + 1 + j = i + (j + 1) by omega]
/-- a def's end: what its parameters are then -/
theorem Sat.outs {np : Nat} {r : Sl} {fv : List Addr} (s : Sat K Z H es [⟨some v, r, fv⟩]) (hr : ∀ i, r = .al i → i < np) : Sat K Z H (outsE kp 0 (es.take np)) [⟨some v, r, fv⟩] ∧ ∀ a ∈ fpsOf (outsE kp 0 (es.take np) ++ [⟨some v, r, fv⟩]), a ∈ fpsOf (es ++ [⟨some v, r, fv⟩]) := by
  have sl : (fpsOf (outsE kp 0 (es.take np))).Sublist (fpsOf es) := (outsE_sub kp 0 (es.take np)).trans (by
    have : es = es.take np ++ es.drop np := (List.take_append_drop np es).symm
    conv => rhs; rw [this]
    simp only [fpsOf, List.flatMap_append]
    exact List.sublist_append_left _ _)
  have sl2 : (fpsOf (outsE kp 0 (es.take np) ++ [⟨some v, r, fv⟩])).Sublist (fpsOf (es ++ [⟨some v, r, fv⟩])) := by
    simp only [fpsOf, List.flatMap_append] at sl ⊢
    exact List.Sublist.append_right sl _
  refine ⟨⟨s.sub, sl2.nodup s.nd, fun a m => s.zf a (sl2.subset m), fun e m => ?_⟩, fun a m => sl2.subset m⟩
  rcases List.mem_append.mp m with q | q
  · obtain ⟨u, mu, k, rfl⟩ := outsE_mem kp q
    exact out_ok (s.ok u (List.mem_append_left _ (List.mem_of_mem_take mu)))
  · obtain rfl := List.mem_singleton.mp q
    have ok := s.ok ⟨some v, r, fv⟩ (by simp)
    cases r with
    | un => exact ok
    | fz d => exact ok
    | ow t d => exact ok
    | al i =>
      obtain ⟨h0, u, x, h1, h2, h3⟩ := ok
      have hi := hr i rfl
      refine ⟨h0, u.out (decide (0 + i ∈ kp)), x, ?_, by rw [out_v]; exact h2, h3⟩
      rw [outsE_get, List.getElem?_take, if_pos hi, h1]; rfl
theorem Sat.outs0 {np : Nat} (s : Sat K Z H es []) : Sat K Z H (outsE kp 0 (es.take np)) [] ∧ ∀ a ∈ fpsOf (outsE kp 0 (es.take np)), a ∈ fpsOf es := by
  have sn : Sat K Z H es [⟨some .non, .fz .non, []⟩] := by
    have := (s.new (New.leaf s.sub (.non (K := K)))).1
    simpa using this
  obtain ⟨h1, h2⟩ := sn.outs (kp := kp) (np := np) (fun i z => by cases z)
  refine ⟨h1.bare, fun a m => ?_⟩
  have := h2 a (fps_app.mpr (.inl m))
  rcases fps_app.mp this with q | q
  · exact q
  · simp at q
theorem vok_outs {np : Nat} {vs : List V} {ts es' : List Ent} (hl : ts.length = np) (ht : vsOf ts = vs.map some) (hk : Kept kp (vs.map some ++ List.replicate n none) (vsOf es')) (hn : np ≤ es'.length) : Vok ts (outsE kp 0 (es'.take np)) := by
  refine ⟨by rw [outsE_len, List.length_take]; omega, fun k e e' h1 h2 => ?_⟩
  rw [outsE_get] at h2
  have hkn : k < np := by rw [← hl]; exact (List.getElem?_eq_some_iff.mp h1).1
  rw [List.getElem?_take, if_pos hkn] at h2
  obtain ⟨u, h3, rfl⟩ := Option.map_eq_some_iff.mp h2
  by_cases q : k ∈ kp
  · right
    rw [out_v]
    have := hk.2 k q
    rw [List.getElem?_map, h3, ← ht, List.getElem?_append_left (by simp [hl]; exact hkn), List.getElem?_map, h1] at this
    simpa using this
  · left
    rw [out_s]
    have : decide (0 + k ∈ kp) = false := by simp [q]
    rw [this]
    cases u.s <;> rfl
/-- one value that is owned by name i moves out of it -/
theorem Sat.lend1 {i : Nat} {e : Ent} {t : Tg} {d : D} {w : Option V} {fp : List Addr} (s : Sat K Z H es (pre ++ ⟨w, .al i, fp⟩ :: us)) (he : es[i]? = some e) (hs : e.s = .ow t d) :
    Sat K Z H (es.set i ⟨e.v, .un, []⟩) (pre ++ ⟨w, .ow t d, e.fp⟩ :: us) ∧ (fpsOf (es.set i ⟨e.v, .un, []⟩ ++ (pre ++ ⟨w, .ow t d, e.fp⟩ :: us))).Perm (fpsOf (es ++ (pre ++ ⟨w, .al i, fp⟩ :: us))) := by
  have okA := s.ok ⟨w, .al i, fp⟩ (by simp)
  obtain ⟨h0, u, x, h1, h2, h3⟩ := okA
  rw [he] at h1; cases h1
  dsimp only at h0 h3
  subst h0 h3
  have hi : i < es.length := (List.getElem?_eq_some_iff.mp he).1
  have de : es = es.take i ++ e :: es.drop (i + 1) := by
    have := List.take_append_drop i es
    rw [List.drop_eq_getElem_cons hi] at this
    rw [(List.getElem?_eq_some_iff.mp he).2] at this
    exact this.symm
  have ds : es.set i ⟨e.v, .un, []⟩ = es.take i ++ ⟨e.v, .un, []⟩ :: es.drop (i + 1) := by
    rw [List.set_eq_take_append_cons_drop, if_pos hi]
  have pm : (fpsOf (es.set i ⟨e.v, .un, []⟩ ++ (pre ++ ⟨some x, .ow t d, e.fp⟩ :: us))).Perm (fpsOf (es ++ (pre ++ ⟨some x, .al i, []⟩ :: us))) := by
    rw [ds]
    conv => rhs; rw [de]
    simp only [fpsOf, List.flatMap_append, List.flatMap_cons]
    rw [List.perm_iff_count]
    intro a
    simp only [List.count_append, List.nil_append, List.count_nil]
    omega
  have oke := s.ok e (List.mem_append_left _ (List.mem_of_getElem? he))
  refine ⟨⟨s.sub, pm.symm.nodup s.nd, fun a m => s.zf a (pm.subset m), fun e' m => ?_⟩, pm⟩
  have hv : vsOf (es.set i ⟨e.v, .un, []⟩) = vsOf es := by
    show (es.set i _).map Ent.v = _
    rw [List.map_set]
    apply List.ext_getElem?
    intro j
    rw [List.getElem?_set]
    split
    · rename_i q; subst q; rw [List.getElem?_map, he]; simp [hi]
    · rfl
  have go : ∀ e', EntOk K Z H es e' → EntOk K Z H (es.set i ⟨e.v, .un, []⟩) e' := fun e' ok => ok.frame (Le.refl _) (fun _ _ _ q => q) hv
  rcases List.mem_append.mp m with q | q
  · rcases List.mem_or_eq_of_mem_set q with q | q
    · exact go e' (s.ok e' (List.mem_append_left _ q))
    · subst q; rfl
  · rcases List.mem_append.mp q with q | q
    · exact go e' (s.ok e' (List.mem_append_right _ (List.mem_append_left _ q)))
    · rcases List.mem_cons.mp q with q | q
      · subst q
        unfold EntOk at oke ⊢
        rw [hs] at oke
        obtain ⟨y, q1, q2⟩ := oke
        rw [h2] at q1; cases q1
        exact ⟨x, rfl, q2⟩
      · exact go e' (s.ok e' (List.mem_append_right _ (List.mem_append_right _ (List.mem_cons_of_mem _ q))))
/-- .. and back -/
theorem Sat.back1 {i : Nat} {e u : Ent} (s : Sat K Z H es (pre ++ u :: us)) (he : es[i]? = some e) (hs : e.s = .un) (hv : u.v = e.v) (hu : ∀ j, u.s ≠ .al j) :
    Sat K Z H (es.set i u) (pre ++ us) ∧ (fpsOf (es.set i u ++ (pre ++ us))).Perm (fpsOf (es ++ (pre ++ u :: us))) := by
  have hi : i < es.length := (List.getElem?_eq_some_iff.mp he).1
  have oke := s.ok e (List.mem_append_left _ (List.mem_of_getElem? he))
  have h0 : e.fp = [] := by unfold EntOk at oke; rw [hs] at oke; exact oke
  have de : es = es.take i ++ e :: es.drop (i + 1) := by
    have := List.take_append_drop i es
    rw [List.drop_eq_getElem_cons hi] at this
    rw [(List.getElem?_eq_some_iff.mp he).2] at this
    exact this.symm
  have ds : es.set i u = es.take i ++ u :: es.drop (i + 1) := by
    rw [List.set_eq_take_append_cons_drop, if_pos hi]
  have pm : (fpsOf (es.set i u ++ (pre ++ us))).Perm (fpsOf (es ++ (pre ++ u :: us))) := by
    rw [ds]
    conv => rhs; rw [de]
    simp only [fpsOf, List.flatMap_append, List.flatMap_cons, h0]
    rw [List.perm_iff_count]
    intro a
    simp only [List.count_append, List.nil_append, List.count_nil]
    omega
  have hvs : vsOf (es.set i u) = vsOf es := by
    show (es.set i _).map Ent.v = _
    rw [List.map_set]
    apply List.ext_getElem?
    intro j
    rw [List.getElem?_set]
    split
    · rename_i q; subst q; rw [List.getElem?_map, he]; simp [hi, hv]
    · rfl
  have go : ∀ e', EntOk K Z H es e' → EntOk K Z H (es.set i u) e' := fun e' ok => ok.frame (Le.refl _) (fun _ _ _ q => q) hvs
  refine ⟨⟨s.sub, pm.symm.nodup s.nd, fun a m => s.zf a (pm.subset m), fun e' m => go e' ?_⟩, pm⟩
  rcases List.mem_append.mp m with q | q
  · rcases List.mem_or_eq_of_mem_set q with q | q
    · exact s.ok e' (List.mem_append_left _ q)
    · subst q; exact s.ok _ (by simp)
  · rcases List.mem_append.mp q with q | q
    · exact s.ok e' (List.mem_append_right _ (List.mem_append_left _ q))
    · exact s.ok e' (List.mem_append_right _ (List.mem_append_right _ (List.mem_cons_of_mem _ q)))
end
end Mi
namespace Mi
open PySem PySem.Spec PyProof.Rows L2 Rt
section
variable {K : PySem.W.Frag} {E : EW} {kp : List Nat} {σ σ1 : L2.St} {Z H Z' H' Z1 H1 : Hp} {F F1 : List Addr} {es ts us es1 pre : List Ent} {v : V} {Q : VK}
theorem fps_rep (n : Nat) : fpsOf (List.replicate n (⟨none, .un, []⟩ : Ent)) = [] := by
  induction n with
  | zero => rfl
  | succ n ih => rw [List.replicate_succ]; show [] ++ fpsOf _ = []; rw [ih]; rfl
theorem EntOk.grow {e : Ent} (ok : EntOk K Z H [] e) : EntOk K Z H es e := ok.any
theorem body_ok {N : List Str} {n np : Nat} {f : FS} {vs : List V} {E0 : XK} (hN : N.length = n) (h : spM K (body n np kp f) vs H Q E0) : RS K (fun _ => E0) kp f { nx := fun _ H' => Q .non H', rt := Q } (L2.start N vs) H := by
  obtain ⟨Z, ts, s, hv, k⟩ := h
  unfold body at k
  by_cases hl : (ssOf ts).length = np
  · rw [if_pos hl] at k
    have hl' : ts.length = np := by simpa using hl
    have hvl : vs.length = np := by
      have := congrArg List.length hv
      simp at this; omega
    -- the entry
    let es := ts ++ List.replicate (n - np) (⟨none, .un, []⟩ : Ent)
    have ef : fpsOf es = fpsOf ts := by
      show fpsOf (ts ++ _) = _
      simp only [fpsOf, List.flatMap_append]
      have := fps_rep (n - np)
      unfold fpsOf at this
      rw [this, List.append_nil]
    have ss : Sat K Z H es [] := by
      refine ⟨s.sub, ?_, fun a m => s.zf a ?_, fun e m => ?_⟩
      · rw [List.append_nil, ef]
        simpa using s.nd
      · rw [List.append_nil, ef] at m
        simpa using m
      · rw [List.append_nil] at m
        rcases List.mem_append.mp m with q | q
        · exact (s.ok e (by simpa using q)).any
        · rw [(List.mem_replicate.mp q).2]; rfl
    have hvs : vsOf es = L2.start N vs := by
      show (ts ++ List.replicate (n - np) _).map Ent.v = _
      rw [List.map_append, List.map_replicate]
      show vsOf ts ++ _ = _
      rw [hv]
      unfold L2.start
      rw [hN, hvl]
    have hss : ssOf es = ssOf ts ++ List.replicate (n - np) .un := by
      show (ts ++ List.replicate (n - np) _).map Ent.s = _
      rw [List.map_append, List.map_replicate]
    refine RS.of ss hvs ?_
    rw [hss]
    have np_le : ∀ es' : List Ent, Kept kp (L2.start N vs) (vsOf es') → True := fun _ _ => trivial
    have st0 : ∀ {Z' H' : Hp} {F' : List Addr}, Step Z H (fpsOf es) Z' H' F' → Step Z H (fpsOf ts) Z' H' F' := fun st => by rw [← ef]; exact st
    have kst : ∀ es', Kept kp (L2.start N vs) (vsOf es') → Kept kp (vs.map some ++ List.replicate (n - np) none) (vsOf es') := fun es' q => by
      unfold L2.start at q
      rw [hN, hvl] at q
      exact q
    have len_of : ∀ {es' : List Ent} {s1 : List Sl}, ssOf es' = s1 → np ≤ s1.length → np ≤ es'.length := fun e l => by rw [← e] at l; simpa using l
    cases hf : f (ssOf ts ++ List.replicate (n - np) .un) with
    | stuck => rw [hf] at k; exact k
    | bk ss => rw [hf] at k; exact k.elim
    | ct ss => rw [hf] at k; exact k.elim
    | nx s1 =>
      rw [hf] at k
      unfold finO at k
      dsimp only at k
      by_cases hnp : np ≤ s1.length
      · rw [if_pos hnp] at k
        intro Z' H' es' st s' kd e
        have sn : Sat K Z' H' es' [⟨some .non, .fz .non, []⟩] := by simpa using (s'.new (New.leaf s'.sub (.non (K := K)))).1
        obtain ⟨h1, h2⟩ := sn.outs (kp := kp) (np := np) (fun i z => by cases z)
        refine k Z' H' _ .non [] ((st0 st).less fun a m => ?_) h1 (vok_outs hl' hv (kst es' kd) (len_of e hnp)) (by rw [outsE_s, ← e]; simp [List.map_take])
        have := h2 a m
        rcases fps_app.mp this with q | q
        · exact q
        · simp at q
      · rw [if_neg hnp] at k; exact k.elim
    | exc c fs s1 =>
      rw [hf] at k
      unfold finO at k
      dsimp only at k
      by_cases hnp : np ≤ s1.length
      · rw [if_pos hnp] at k
        intro Z' H' es' d st s' kd e ed
        obtain ⟨h1, h2⟩ := s'.outs0 (kp := kp) (np := np)
        exact k Z' H' _ d ((st0 st).less h2) h1 (vok_outs hl' hv (kst es' kd) (len_of e hnp)) (by rw [outsE_s, ← e]; simp [List.map_take]) ed
      · rw [if_neg hnp] at k; exact k.elim
    | rt r s1 =>
      rw [hf] at k
      unfold finO at k
      dsimp only at k
      by_cases hnp : np ≤ s1.length
      · rw [if_pos hnp] at k
        intro Z' H' es' v fv st s' kd e
        have direct : ∀ r', r = r' → (∀ i, r' = .al i → i < np) → (∀ Z' H' ts' v fv, Step Z H (fpsOf ts) Z' H' (fpsOf (ts' ++ [⟨some v, r', fv⟩])) → Sat K Z' H' ts' [⟨some v, r', fv⟩] → Vok ts ts' → ssOf ts' = outs kp 0 (s1.take np) → Q v H') → Q v H' := by
          rintro r' rfl hal kk
          obtain ⟨h1, h2⟩ := s'.outs (kp := kp) (np := np) hal
          exact kk Z' H' _ v fv ((st0 st).less h2) h1 (vok_outs hl' hv (kst es' kd) (len_of e hnp)) (by rw [outsE_s, ← e]; simp [List.map_take])
        unfold finR at k
        cases r with
        | un => exact k.elim
        | fz d => exact direct _ rfl (fun i z => by cases z) k
        | ow t d => exact direct _ rfl (fun i z => by cases z) k
        | al i =>
          dsimp only at k
          by_cases hc : i < np ∧ i ∈ kp
          · rw [if_pos hc] at k
            exact direct _ rfl (fun j z => by cases z; exact hc.1) k
          · rw [if_neg hc] at k
            obtain ⟨h0, u, x, g1, g2, g3⟩ := s'.ok ⟨some v, .al i, fv⟩ (by simp)
            cases g3
            have e1 : s1[i]? = some u.s := by rw [← e, List.getElem?_map, g1]; rfl
            rw [e1] at k
            cases hs : u.s with
            | un => rw [hs] at k; exact k.elim
            | al j => rw [hs] at k; exact k.elim
            | fz d =>
              rw [hs] at k
              have oku := s'.ok u (List.mem_append_left _ (List.mem_of_getElem? g1))
              unfold EntOk at oku
              rw [hs] at oku
              obtain ⟨y, q1, q2, q3⟩ := oku
              rw [g2] at q1; cases q1
              have sn : Sat K Z' H' es' [⟨some v, .fz d, []⟩] := by simpa using (s'.bare.new (New.fz s'.sub q2)).1
              obtain ⟨h1, h2⟩ := sn.outs (kp := kp) (np := np) (fun i z => by cases z)
              refine k Z' H' _ v [] ((st0 st).less fun a m => ?_) h1 (vok_outs hl' hv (kst es' kd) (len_of e hnp)) (by rw [outsE_s, ← e]; simp [List.map_take])
              rcases fps_app.mp (h2 a m) with q | q
              · exact fps_app.mpr (.inl q)
              · simp at q
            | ow t d =>
              rw [hs] at k
              obtain ⟨sl, pm⟩ := Sat.lend1 (pre := []) (us := []) s' g1 hs
              obtain ⟨h1, h2⟩ := Sat.outs (kp := kp) (np := np) sl (fun i z => by cases z)
              have hvs' : vsOf (es'.set i ⟨u.v, .un, []⟩) = vsOf es' := by
                show (es'.set i _).map Ent.v = _
                rw [List.map_set]
                apply List.ext_getElem?
                intro j
                rw [List.getElem?_set]
                split
                · rename_i q; subst q; rw [List.getElem?_map, g1]; simp [(List.getElem?_eq_some_iff.mp g1).1]
                · rfl
              refine k Z' H' _ v u.fp ((st0 st).less fun a m => pm.subset (h2 a m)) h1 (vok_outs hl' hv (kst _ (by rw [hvs']; exact kd)) (by rw [List.length_set]; exact len_of e hnp)) ?_
              rw [outsE_s, ← e]
              show outs kp 0 (((es'.set i _).take np).map Ent.s) = _
              rw [List.map_take, List.map_set]
      · rw [if_neg hnp] at k; exact k.elim
  · rw [if_neg hl] at k
    exact k.elim
end
end Mi
namespace Mi
open PySem PySem.Spec PyProof.Rows L2 Rt
def lend : List Sl → List Sl → Option (List Sl × List Sl)
  | [], ss => some ([], ss)
  | .al i :: r, ss => match ss[i]? with
    | some (.ow t d) => (lend r (ss.set i .un)).map fun p => (.ow t d :: p.1, p.2)
    | some (.fz d) => (lend r ss).map fun p => (.fz d :: p.1, p.2)
    | _ => none
  | .un :: _, _ => none
  | .fz d :: r, ss => (lend r ss).map fun p => (.fz d :: p.1, p.2)
  | .ow t d :: r, ss => (lend r ss).map fun p => (.ow t d :: p.1, p.2)
/-- what was lent comes back: rs as it was asked for, ls as it was lent, as as it comes -/
def back : List Sl → List Sl → List Sl → List Sl → List Sl
  | .al i :: r, .ow _ _ :: l, .fz d :: as, ss => back r l as (ss.set i (.fz d))
  | .al i :: r, .ow _ _ :: l, .ow t d :: as, ss => back r l as (ss.set i (.ow t d))
  | _ :: r, _ :: l, _ :: as, ss => back r l as ss
  | _, _, _, ss => ss
def resOf (rs as' : List Sl) (r : Sl) : Option Sl := match r with
  | .al k => match rs[k]?, as'[k]? with
    | some (.al i), some (.ow _ _) => some (.al i)
    | some (.al i), some (.fz _) => some (.al i)
    | _, _ => none
  | .un => none
  | r => some r
def noAl : List Sl → Bool
  | [] => true
  | .al _ :: _ => false
  | _ :: r => noAl r
def kcall (m : Fm) (rs ss : List Sl) : Ro (Sl × List Sl) := match lend rs ss with
  | none => .stuck
  | some (as, s1) => match m as with
    | .ret r as' => if noAl as' = true then (match resOf rs as' r with
      | some r' => .ok (r', back rs as as' s1)
      | none => .stuck) else .stuck
    | .exc c fs as' => if noAl as' = true then .exc c fs (back rs as as' s1) else .stuck
    | .stuck => .stuck
def fCall (m : Fm) (dvs : List D) (ft : FA) : FE := fun ss => (ft ss).bind fun p => kcall m (p.1 ++ dvs.map .fz) p.2
section
variable {K : PySem.W.Frag} {E : EW} {kp : List Nat} {σ σ1 : L2.St} {Z H Z' H' Z1 H1 : Hp} {F F1 : List Addr} {es ts us es1 pre : List Ent} {v : V} {Q : VK}
def NoAl (l : List Ent) : Prop := ∀ e ∈ l, ∀ j, e.s ≠ .al j
theorem Sat.lend : ∀ {us pre : List Ent} {es : List Ent} {as s1 : List Sl}, Sat K Z H es (pre ++ us) → Mi.lend (ssOf us) (ssOf es) = some (as, s1) →
    ∃ us' es', Sat K Z H es' (pre ++ us') ∧ ssOf us' = as ∧ ssOf es' = s1 ∧ vsOf us' = vsOf us ∧ vsOf es' = vsOf es ∧ NoAl us' ∧ (∀ e ∈ us', e.s ≠ .un) ∧ (fpsOf (es' ++ (pre ++ us'))).Perm (fpsOf (es ++ (pre ++ us)))
  | [], pre, es, as, s1, s, h => by
    cases h
    exact ⟨[], es, s, rfl, rfl, rfl, rfl, fun _ m => (by cases m), fun _ m => (by cases m), .refl _⟩
  | u :: us, pre, es, as, s1, s, h => by
    have keep : ∀ (u' : Ent) (es1 : List Ent) (as1 : List Sl), Sat K Z H es1 (pre ++ u' :: us) → u'.v = u.v → (∀ j, u'.s ≠ .al j) → u'.s ≠ .un → vsOf es1 = vsOf es → (fpsOf (es1 ++ (pre ++ u' :: us))).Perm (fpsOf (es ++ (pre ++ u :: us))) → Mi.lend (ssOf us) (ssOf es1) = some (as1, s1) → as = u'.s :: as1 →
        ∃ us' es', Sat K Z H es' (pre ++ us') ∧ ssOf us' = as ∧ ssOf es' = s1 ∧ vsOf us' = vsOf (u :: us) ∧ vsOf es' = vsOf es ∧ NoAl us' ∧ (∀ e ∈ us', e.s ≠ .un) ∧ (fpsOf (es' ++ (pre ++ us'))).Perm (fpsOf (es ++ (pre ++ u :: us))) := by
      intro u' es1 as1 s' hv na nu hve pm hl ha
      obtain ⟨us', es', g1, g2, g3, g4, g5, g6, g8, g7⟩ := Sat.lend (us := us) (pre := pre ++ [u']) (by simpa using s') hl
      refine ⟨u' :: us', es', by simpa using g1, by rw [ha, ← g2]; rfl, g3, ?_, g5.trans hve, ?_, ?_, ?_⟩
      · show u'.v :: vsOf us' = u.v :: vsOf us
        rw [hv, g4]
      · intro e m
        rcases List.mem_cons.mp m with q | q
        · subst q; exact na
        · exact g6 e q
      · intro e m
        rcases List.mem_cons.mp m with q | q
        · subst q; exact nu
        · exact g8 e q
      · have : (fpsOf (es' ++ (pre ++ u' :: us'))).Perm (fpsOf (es1 ++ (pre ++ u' :: us))) := by simpa using g7
        exact this.trans pm
    have eu : ssOf (u :: us) = u.s :: ssOf us := rfl
    rw [eu] at h
    cases hs : u.s with
    | un => rw [hs] at h; cases h
    | fz d =>
      rw [hs] at h
      obtain ⟨⟨a1, s2⟩, e1, e2⟩ := Option.map_eq_some_iff.mp h
      cases e2
      exact keep u es a1 s rfl (by rw [hs]; intro j z; cases z) (by rw [hs]; intro z; cases z) rfl (.refl _) e1 (by rw [hs])
    | ow t d =>
      rw [hs] at h
      obtain ⟨⟨a1, s2⟩, e1, e2⟩ := Option.map_eq_some_iff.mp h
      cases e2
      exact keep u es a1 s rfl (by rw [hs]; intro j z; cases z) (by rw [hs]; intro z; cases z) rfl (.refl _) e1 (by rw [hs])
    | al i =>
      rw [hs] at h
      unfold Mi.lend at h
      obtain ⟨uv, us0, uf⟩ := u
      obtain rfl : us0 = .al i := hs
      obtain ⟨h0, w, x, g1, g2, g3⟩ := s.ok ⟨uv, .al i, uf⟩ (by simp)
      dsimp only at h0 g3
      subst h0 g3
      rw [show (ssOf es)[i]? = some w.s by rw [List.getElem?_map, g1]; rfl] at h
      cases hw : w.s with
      | un => rw [hw] at h; cases h
      | al j => rw [hw] at h; cases h
      | ow t d =>
        rw [hw] at h
        dsimp only at h
        obtain ⟨⟨a1, s2⟩, e1, e2⟩ := Option.map_eq_some_iff.mp h
        cases e2
        obtain ⟨s', pm⟩ := s.lend1 g1 hw
        refine keep ⟨some x, .ow t d, w.fp⟩ _ a1 s' rfl (by intro j z; cases z) (by intro z; cases z) ?_ pm ?_ rfl
        · show (es.set i _).map Ent.v = _
          rw [List.map_set]
          apply List.ext_getElem?
          intro j
          rw [List.getElem?_set]
          split
          · rename_i q; subst q; rw [List.getElem?_map, g1]; simp [(List.getElem?_eq_some_iff.mp g1).1]
          · rfl
        · show Mi.lend (ssOf us) ((es.set i _).map Ent.s) = _
          rw [List.map_set]; exact e1
      | fz d =>
        rw [hw] at h
        dsimp only at h
        obtain ⟨⟨a1, s2⟩, e1, e2⟩ := Option.map_eq_some_iff.mp h
        cases e2
        have okw := s.ok w (List.mem_append_left _ (List.mem_of_getElem? g1))
        unfold EntOk at okw
        rw [hw] at okw
        obtain ⟨y, q1, q2, q3⟩ := okw
        rw [g2] at q1; cases q1
        have ef : fpsOf (es ++ (pre ++ ⟨some x, .fz d, []⟩ :: us)) = fpsOf (es ++ (pre ++ ⟨some x, .al i, []⟩ :: us)) := by simp [fpsOf, List.flatMap_append]
        refine keep ⟨some x, .fz d, []⟩ es a1 ⟨s.sub, by rw [ef]; exact s.nd, fun a m => s.zf a (by rw [← ef]; exact m), fun e m => ?_⟩ rfl (by intro j z; cases z) (by intro z; cases z) rfl (by rw [ef]) e1 rfl
        rcases List.mem_append.mp m with q | q
        · exact s.ok e (List.mem_append_left _ q)
        · rcases List.mem_append.mp q with q | q
          · exact s.ok e (List.mem_append_right _ (List.mem_append_left _ q))
          · rcases List.mem_cons.mp q with q | q
            · subst q; exact ⟨x, rfl, q2, rfl⟩
            · exact s.ok e (List.mem_append_right _ (List.mem_append_right _ (List.mem_cons_of_mem _ q)))
theorem vs_set {i : Nat} {e u : Ent} (h : es[i]? = some e) (hv : u.v = e.v) : vsOf (es.set i u) = vsOf es := by
  show (es.set i _).map Ent.v = _
  rw [List.map_set]
  apply List.ext_getElem?
  intro j
  rw [List.getElem?_set]
  split
  · rename_i q; subst q; rw [List.getElem?_map, h]; simp [(List.getElem?_eq_some_iff.mp h).1, hv]
  · rfl
/-- a temporary is let go -/
theorem Sat.dropM {u : Ent} (s : Sat K Z H es (pre ++ u :: us)) : Sat K Z H es (pre ++ us) ∧ (fpsOf (es ++ (pre ++ us))).Sublist (fpsOf (es ++ (pre ++ u :: us))) := by
  have sl : (fpsOf (es ++ (pre ++ us))).Sublist (fpsOf (es ++ (pre ++ u :: us))) := by
    simp only [fpsOf, List.flatMap_append, List.flatMap_cons]
    exact List.Sublist.append_left (List.Sublist.append_left (List.sublist_append_right _ _) _) _
  refine ⟨⟨s.sub, sl.nodup s.nd, fun a m => s.zf a (sl.subset m), fun e m => s.ok e ?_⟩, sl⟩
  rcases List.mem_append.mp m with q | q
  · exact List.mem_append_left _ q
  · rcases List.mem_append.mp q with q | q
    · exact List.mem_append_right _ (List.mem_append_left _ q)
    · exact List.mem_append_right _ (List.mem_append_right _ (List.mem_cons_of_mem _ q))
theorem Sat.back : ∀ {us0 us1 us2 : List Ent} {es : List Ent}, Sat K Z H es (us2 ++ ts) → (∀ (k : Nat) (e : Ent) i, us0[k]? = some e → e.s = .al i → (∃ t d w, us1[k]? = some w ∧ w.s = .ow t d) → ∃ x, es[i]? = some x ∧ x.v = e.v ∧ (x.s = .un)) →
    (∀ (k k' : Nat) (e e' : Ent) i, us0[k]? = some e → us0[k']? = some e' → e.s = .al i → e'.s = .al i → (∃ t d w, us1[k]? = some w ∧ w.s = .ow t d) → (∃ t d w, us1[k']? = some w ∧ w.s = .ow t d) → k = k') →
    us1.length = us0.length → us2.length = us0.length → (∀ (k : Nat) (e e' : Ent), us0[k]? = some e → us2[k]? = some e' → e'.s = .un ∨ e'.v = e.v) →
    ∃ es', Sat K Z H es' ts ∧ ssOf es' = Mi.back (ssOf us0) (ssOf us1) (ssOf us2) (ssOf es) ∧ vsOf es' = vsOf es ∧ (∀ a ∈ fpsOf (es' ++ ts), a ∈ fpsOf (es ++ (us2 ++ ts)))
  | [], us1, us2, es, s, _, _, l1, l2, _ => by
    obtain rfl : us1 = [] := List.length_eq_zero_iff.mp l1
    obtain rfl : us2 = [] := List.length_eq_zero_iff.mp l2
    exact ⟨es, s, rfl, rfl, fun _ m => m⟩
  | u0 :: us0, [], _, _, _, _, _, l1, _, _ => by cases l1
  | u0 :: us0, _ :: _, [], _, _, _, _, _, l2, _ => by cases l2
  | u0 :: us0, u1 :: us1, u2 :: us2, es, s, hl, hd, l1, l2, hv => by
    have l1' : us1.length = us0.length := by simpa using l1
    have l2' : us2.length = us0.length := by simpa using l2
    have hv' : ∀ (k : Nat) (e e' : Ent), us0[k]? = some e → us2[k]? = some e' → e'.s = .un ∨ e'.v = e.v := fun k e e' h1 h2 => hv (k + 1) e e' (by simpa using h1) (by simpa using h2)
    have hd' : ∀ (k k' : Nat) (e e' : Ent) i, us0[k]? = some e → us0[k']? = some e' → e.s = .al i → e'.s = .al i → (∃ t d w, us1[k]? = some w ∧ w.s = .ow t d) → (∃ t d w, us1[k']? = some w ∧ w.s = .ow t d) → k = k' := fun k k' e e' i h1 h2 h3 h4 h5 h6 => by
      have := hd (k + 1) (k' + 1) e e' i (by simpa using h1) (by simpa using h2) h3 h4 (by simpa using h5) (by simpa using h6)
      omega
    have skip : Mi.back (ssOf (u0 :: us0)) (ssOf (u1 :: us1)) (ssOf (u2 :: us2)) (ssOf es) = Mi.back (ssOf us0) (ssOf us1) (ssOf us2) (ssOf es) → ∃ es', Sat K Z H es' ts ∧ ssOf es' = Mi.back (ssOf (u0 :: us0)) (ssOf (u1 :: us1)) (ssOf (u2 :: us2)) (ssOf es) ∧ vsOf es' = vsOf es ∧ (∀ a ∈ fpsOf (es' ++ ts), a ∈ fpsOf (es ++ (u2 :: us2 ++ ts))) := by
      intro e
      obtain ⟨s', sl⟩ := Sat.dropM (pre := []) s
      obtain ⟨es', g1, g2, g3, g4⟩ := Sat.back (us0 := us0) (us1 := us1) (us2 := us2) (es := es) s' (fun k e i h1 h2 h3 => hl (k + 1) e i (by simpa using h1) h2 (by simpa using h3)) hd' l1' l2' hv'
      exact ⟨es', g1, g2.trans e.symm, g3, fun a m => sl.subset (g4 a m)⟩
    have give : ∀ i t d, u0.s = .al i → u1.s = .ow t d → u2.s ≠ .un → (∀ j, u2.s ≠ .al j) → Mi.back (ssOf (u0 :: us0)) (ssOf (u1 :: us1)) (ssOf (u2 :: us2)) (ssOf es) = Mi.back (ssOf us0) (ssOf us1) (ssOf us2) ((ssOf es).set i u2.s) →
        ∃ es', Sat K Z H es' ts ∧ ssOf es' = Mi.back (ssOf (u0 :: us0)) (ssOf (u1 :: us1)) (ssOf (u2 :: us2)) (ssOf es) ∧ vsOf es' = vsOf es ∧ (∀ a ∈ fpsOf (es' ++ ts), a ∈ fpsOf (es ++ (u2 :: us2 ++ ts))) := by
      intro i t d e0 e1 nu na e
      obtain ⟨x, x1, x2, x3⟩ := hl 0 u0 i rfl e0 ⟨t, d, u1, rfl, e1⟩
      have hv2 : u2.v = x.v := by
        rcases hv 0 u0 u2 rfl rfl with q | q
        · exact absurd q nu
        · exact q.trans x2.symm
      obtain ⟨s', pm⟩ := Sat.back1 (pre := []) s x1 x3 hv2 na
      have hvs := vs_set (es := es) x1 hv2
      obtain ⟨es', g1, g2, g3, g4⟩ := Sat.back (us0 := us0) (us1 := us1) (us2 := us2) (es := es.set i u2) s' (fun k e i' h1 h2 h3 => by
        obtain ⟨y, y1, y2, y3⟩ := hl (k + 1) e i' (by simpa using h1) h2 (by simpa using h3)
        have ne : i ≠ i' := fun z => by
          subst z
          have := hd 0 (k + 1) u0 e i rfl (by simpa using h1) e0 h2 ⟨t, d, u1, rfl, e1⟩ (by simpa using h3)
          omega
        exact ⟨y, by rw [List.getElem?_set_ne ne]; exact y1, y2, y3⟩) hd' l1' l2' hv'
      refine ⟨es', g1, ?_, g3.trans hvs, fun a m => pm.subset (g4 a m)⟩
      rw [g2, e]
      show Mi.back _ _ _ ((es.set i u2).map Ent.s) = _
      rw [List.map_set]
    cases h0 : u0.s with
    | un => exact skip (by show Mi.back (u0.s :: _) (u1.s :: _) (u2.s :: _) _ = _; rw [h0]; rfl)
    | fz d => exact skip (by show Mi.back (u0.s :: _) (u1.s :: _) (u2.s :: _) _ = _; rw [h0]; rfl)
    | ow t d => exact skip (by show Mi.back (u0.s :: _) (u1.s :: _) (u2.s :: _) _ = _; rw [h0]; rfl)
    | al i =>
      cases h1 : u1.s with
      | un => exact skip (by show Mi.back (u0.s :: _) (u1.s :: _) (u2.s :: _) _ = _; rw [h0, h1]; rfl)
      | fz d => exact skip (by show Mi.back (u0.s :: _) (u1.s :: _) (u2.s :: _) _ = _; rw [h0, h1]; rfl)
      | al j => exact skip (by show Mi.back (u0.s :: _) (u1.s :: _) (u2.s :: _) _ = _; rw [h0, h1]; rfl)
      | ow t d =>
        cases h2 : u2.s with
        | un => exact skip (by show Mi.back (u0.s :: _) (u1.s :: _) (u2.s :: _) _ = _; rw [h0, h1, h2]; rfl)
        | al j => exact skip (by show Mi.back (u0.s :: _) (u1.s :: _) (u2.s :: _) _ = _; rw [h0, h1, h2]; rfl)
        | fz d' => exact give i t d h0 h1 (by rw [h2]; intro z; cases z) (by rw [h2]; intro j z; cases z) (by show Mi.back (u0.s :: _) (u1.s :: _) (u2.s :: _) _ = _; rw [h0, h1, h2]; rfl)
        | ow t' d' => exact give i t d h0 h1 (by rw [h2]; intro z; cases z) (by rw [h2]; intro j z; cases z) (by show Mi.back (u0.s :: _) (u1.s :: _) (u2.s :: _) _ = _; rw [h0, h1, h2]; rfl)
theorem lend_un : ∀ {rs ss as s1 : List Sl} {i : Nat}, Mi.lend rs ss = some (as, s1) → ss[i]? = some .un → s1[i]? = some .un
  | [], ss, as, s1, i, h, e => by cases h; exact e
  | .un :: _, _, _, _, _, h, _ => by cases h
  | .fz d :: r, ss, as, s1, i, h, e => by
    obtain ⟨⟨a1, s2⟩, e1, e2⟩ := Option.map_eq_some_iff.mp h
    cases e2; exact lend_un e1 e
  | .ow t d :: r, ss, as, s1, i, h, e => by
    obtain ⟨⟨a1, s2⟩, e1, e2⟩ := Option.map_eq_some_iff.mp h
    cases e2; exact lend_un e1 e
  | .al j :: r, ss, as, s1, i, h, e => by
    unfold Mi.lend at h
    cases q : ss[j]? with
    | none => rw [q] at h; cases h
    | some w =>
      rw [q] at h
      cases w with
      | un => cases h
      | al _ => cases h
      | fz d =>
        obtain ⟨⟨a1, s2⟩, e1, e2⟩ := Option.map_eq_some_iff.mp h
        cases e2; exact lend_un e1 e
      | ow t d =>
        obtain ⟨⟨a1, s2⟩, e1, e2⟩ := Option.map_eq_some_iff.mp h
        cases e2
        refine lend_un e1 ?_
        rw [List.getElem?_set]
        split
        · rename_i z; subst z; rw [if_pos (List.getElem?_eq_some_iff.mp q).1]
        · exact e
theorem lend_lent : ∀ {rs ss as s1 : List Sl}, Mi.lend rs ss = some (as, s1) → (∀ (k i : Nat) t d, rs[k]? = some (.al i) → as[k]? = some (.ow t d) → s1[i]? = some .un ∧ ss[i]? = some (.ow t d)) ∧
    (∀ (k k' i : Nat) t d t' d', rs[k]? = some (.al i) → rs[k']? = some (.al i) → as[k]? = some (.ow t d) → as[k']? = some (.ow t' d') → k = k') ∧ as.length = rs.length
  | [], ss, as, s1, h => by cases h; exact ⟨fun k i t d e => by simp at e, fun k k' i t d t' d' e => by simp at e, rfl⟩
  | .un :: _, _, _, _, h => by cases h
  | .fz d :: r, ss, as, s1, h => by
    obtain ⟨⟨a1, s2⟩, e1, e2⟩ := Option.map_eq_some_iff.mp h
    cases e2
    obtain ⟨h1, h2, h3⟩ := lend_lent e1
    refine ⟨fun k i t d e g => ?_, fun k k' i t d t' d' e e' g g' => ?_, congrArg (· + 1) h3⟩
    · cases k with
      | zero => simp at e
      | succ k => exact h1 k i t d (by simpa using e) (by simpa using g)
    · cases k with
      | zero => simp at e
      | succ k =>
        cases k' with
        | zero => simp at e'
        | succ k' => rw [h2 k k' i t d t' d' (by simpa using e) (by simpa using e') (by simpa using g) (by simpa using g')]
  | .ow t0 d0 :: r, ss, as, s1, h => by
    obtain ⟨⟨a1, s2⟩, e1, e2⟩ := Option.map_eq_some_iff.mp h
    cases e2
    obtain ⟨h1, h2, h3⟩ := lend_lent e1
    refine ⟨fun k i t d e g => ?_, fun k k' i t d t' d' e e' g g' => ?_, congrArg (· + 1) h3⟩
    · cases k with
      | zero => simp at e
      | succ k => exact h1 k i t d (by simpa using e) (by simpa using g)
    · cases k with
      | zero => simp at e
      | succ k =>
        cases k' with
        | zero => simp at e'
        | succ k' => rw [h2 k k' i t d t' d' (by simpa using e) (by simpa using e') (by simpa using g) (by simpa using g')]
  | .al j :: r, ss, as, s1, h => by
    unfold Mi.lend at h
    cases q : ss[j]? with
    | none => rw [q] at h; cases h
    | some w =>
      rw [q] at h
      cases w with
      | un => cases h
      | al _ => cases h
      | fz d =>
        obtain ⟨⟨a1, s2⟩, e1, e2⟩ := Option.map_eq_some_iff.mp h
        cases e2
        obtain ⟨h1, h2, h3⟩ := lend_lent e1
        refine ⟨fun k i t d e g => ?_, fun k k' i t d t' d' e e' g g' => ?_, congrArg (· + 1) h3⟩
        · cases k with
          | zero => simp at g
          | succ k => exact h1 k i t d (by simpa using e) (by simpa using g)
        · cases k with
          | zero => simp at g
          | succ k =>
            cases k' with
            | zero => simp at g'
            | succ k' => rw [h2 k k' i t d t' d' (by simpa using e) (by simpa using e') (by simpa using g) (by simpa using g')]
      | ow t0 d0 =>
        obtain ⟨⟨a1, s2⟩, e1, e2⟩ := Option.map_eq_some_iff.mp h
        cases e2
        obtain ⟨h1, h2, h3⟩ := lend_lent e1
        have un : (ss.set j .un)[j]? = some Sl.un := by rw [List.getElem?_set, if_pos rfl, if_pos (List.getElem?_eq_some_iff.mp q).1]
        have nj : ∀ (k i : Nat) (t : Tg) (d : D), r[k]? = some (Sl.al i) → a1[k]? = some (Sl.ow t d) → i ≠ j := fun k i t d e g z => by
          subst z
          have := (h1 k i t d e g).2
          rw [un] at this; cases this
        refine ⟨fun k i t d e g => ?_, fun k k' i t d t' d' e e' g g' => ?_, congrArg (· + 1) h3⟩
        · cases k with
          | zero =>
            simp at e g
            obtain ⟨rfl, rfl⟩ := g
            subst e
            exact ⟨lend_un e1 un, q⟩
          | succ k =>
            have e' : r[k]? = some (.al i) := by simpa using e
            have g' : a1[k]? = some (.ow t d) := by simpa using g
            obtain ⟨x1, x2⟩ := h1 k i t d e' g'
            rw [List.getElem?_set_ne (Ne.symm (nj k i t d e' g'))] at x2
            exact ⟨x1, x2⟩
        · cases k with
          | zero =>
            cases k' with
            | zero => rfl
            | succ k' =>
              simp at e
              subst e
              exact absurd rfl (nj k' j t' d' (by simpa using e') (by simpa using g'))
          | succ k =>
            cases k' with
            | zero =>
              simp at e'
              subst e'
              exact absurd rfl (nj k j t d (by simpa using e) (by simpa using g))
            | succ k' => rw [h2 k k' i t d t' d' (by simpa using e) (by simpa using e') (by simpa using g) (by simpa using g')]
theorem noAl_of : ∀ {l : List Ent}, noAl (ssOf l) = true → NoAl l
  | [], _ => fun _ m => by cases m
  | e :: r, h => by
    have h' : noAl (e.s :: ssOf r) = true := h
    intro u m j
    rcases List.mem_cons.mp m with q | q
    · subst q
      intro z; rw [z] at h'; cases h'
    · refine noAl_of (l := r) ?_ u q j
      cases hs : e.s <;> rw [hs] at h' <;> first | exact h' | cases h'
theorem EntOk.noAl {e : Ent} (h : EntOk K Z H es e) (n : ∀ j, e.s ≠ .al j) : EntOk K Z H us e := by
  unfold EntOk at h ⊢
  split at h
  · exact h
  · exact h
  · exact h
  · rename_i j hs; exact absurd hs (n j)
theorem Sat.alone (s : Sat K Z H es us) (n : NoAl us) : Sat K Z H [] us := by
  refine ⟨s.sub, ?_, fun a m => s.zf a (fps_app.mpr (.inr (by simpa using m))), fun e m => (s.ok e (List.mem_append_right _ (by simpa using m))).noAl (n e (by simpa using m))⟩
  have := s.nd
  simp only [fpsOf, List.flatMap_append] at this
  simpa using (List.nodup_append.mp this).2.1
/-- the names of the caller stand while the callee works on what was handed over -/
theorem Sat.frame2 {ws : List Ent} (s : Sat K Z H es us) (st : Step Z H (fpsOf us) Z' H' (fpsOf ws)) (hsub : SubM K Z' H') (hnd : (fpsOf ws).Nodup) (hzf : ∀ a ∈ fpsOf ws, Z' a = none) (hok : ∀ e ∈ ws, EntOk K Z' H' es e) :
    Sat K Z' H' es ws ∧ Step Z H (fpsOf (es ++ us)) Z' H' (fpsOf (es ++ ws)) := by
  have al : ∀ a ∈ fpsOf es, ∃ o, H a = some o := fun a m => s.alive a (fps_app.mpr (.inl m))
  have nd := s.nd
  simp only [fpsOf, List.flatMap_append, List.nodup_append] at nd
  have nf : ∀ a ∈ fpsOf es, a ∉ fpsOf us := fun a m z => nd.2.2 a m a z rfl
  have n2 : ∀ a ∈ fpsOf es, a ∉ fpsOf ws := fun a m z => by
    rcases st.fps a z with q | q
    · exact nf a m q
    · obtain ⟨o, e⟩ := al a m; rw [e] at q; cases q
  refine ⟨⟨hsub, ?_, fun a m => ?_, fun e m => ?_⟩, ?_⟩
  · simp only [fpsOf, List.flatMap_append, List.nodup_append]
    exact ⟨nd.1, hnd, fun a m b mb z => by subst z; exact n2 a m mb⟩
  · rcases fps_app.mp m with q | q
    · cases e : Z' a with
      | none => rfl
      | some o =>
        rcases st.zn a o e with z | z | z
        · rw [s.zf a (fps_app.mpr (.inl q))] at z; cases z
        · exact (nf a q z).elim
        · obtain ⟨o', e'⟩ := al a q; rw [e'] at z; cases z
    · exact hzf a q
  · rcases List.mem_append.mp m with q | q
    · exact (s.ok e (List.mem_append_left _ q)).frame st.z (fun a ma o e' => st.own (s.zf a (fps_app.mpr (.inl (mem_fps.mpr ⟨e, q, ma⟩)))) e' (nf a (mem_fps.mpr ⟨e, q, ma⟩))) rfl
    · exact hok e q
  · refine ⟨fun a o e n => st.keep a o e fun z => n (fps_app.mpr (.inr z)), fun a m => ?_, st.z, fun a o e => ?_⟩
    · rcases fps_app.mp m with q | q
      · exact .inl (fps_app.mpr (.inl q))
      · exact (st.fps a q).imp (fun z => fps_app.mpr (.inr z)) id
    · exact (st.zn a o e).imp id fun z => z.imp (fun z => fps_app.mpr (.inr z)) id
/-- a call: from what is wanted behind it to what the callee promises -/
theorem call_sp {m : Fm} {vs : List V} (s : Sat K Z H es us) (hv : vsOf es = σ) (hu : vsOf us = vs.map some) (k : KQ K E σ Z H (fpsOf (es ++ us)) (kcall m (ssOf us) (ssOf es)) Q) : spM K m vs H Q (E σ) := by
  unfold kcall at k
  cases hl : Mi.lend (ssOf us) (ssOf es) with
  | none => rw [hl] at k; exact k.elim
  | some p =>
    obtain ⟨as, s1⟩ := p
    rw [hl] at k
    dsimp only at k
    obtain ⟨us', es1, g1, g2, g3, g4, g5, g6, g7, g8⟩ := Sat.lend (pre := []) (us := us) s hl
    obtain ⟨l1, l2, l3⟩ := lend_lent hl
    simp only [List.nil_append] at g1 g8
    subst g2 g3
    have ulen : us'.length = us.length := by simpa using l3
    -- what back wants
    have hA : ∀ (k : Nat) (e : Ent) i, us[k]? = some e → e.s = .al i → (∃ t d w, us'[k]? = some w ∧ w.s = .ow t d) → ∃ x, es1[i]? = some x ∧ x.v = e.v ∧ x.s = .un := by
      rintro k e i h1 h2 ⟨t, d, w, h3, h4⟩
      have e1 : (ssOf us)[k]? = some (.al i) := by rw [List.getElem?_map, h1, ← h2]; rfl
      have e2 : (ssOf us')[k]? = some (.ow t d) := by rw [List.getElem?_map, h3, ← h4]; rfl
      obtain ⟨x1, x2⟩ := l1 k i t d e1 e2
      rw [List.getElem?_map] at x1
      cases q : es1[i]? with
      | none => rw [q] at x1; cases x1
      | some x =>
        rw [q] at x1
        refine ⟨x, rfl, ?_, by simpa using x1⟩
        have ok := s.ok e (List.mem_append_right _ (List.mem_of_getElem? h1))
        unfold EntOk at ok
        rw [h2] at ok
        obtain ⟨_, u, y, y1, y2, y3⟩ := ok
        have : (vsOf es1)[i]? = (vsOf es)[i]? := by rw [g5]
        rw [List.getElem?_map, List.getElem?_map, q, y1] at this
        simp only [Option.map_some, Option.some.injEq] at this
        rw [this, y2, y3]
    have hB : ∀ (k k' : Nat) (e e' : Ent) i, us[k]? = some e → us[k']? = some e' → e.s = .al i → e'.s = .al i → (∃ t d w, us'[k]? = some w ∧ w.s = .ow t d) → (∃ t d w, us'[k']? = some w ∧ w.s = .ow t d) → k = k' := by
      rintro k k' e e' i h1 h2 h3 h4 ⟨t, d, w, h5, h6⟩ ⟨t', d', w', h7, h8⟩
      exact l2 k k' i t d t' d' (by rw [List.getElem?_map, h1, ← h3]; rfl) (by rw [List.getElem?_map, h2, ← h4]; rfl) (by rw [List.getElem?_map, h5, ← h6]; rfl) (by rw [List.getElem?_map, h7, ← h8]; rfl)
    have hC : ∀ {ts' : List Ent}, Vok us' ts' → ∀ (k : Nat) (e e' : Ent), us[k]? = some e → ts'[k]? = some e' → e'.s = .un ∨ e'.v = e.v := by
      intro ts' vk k e e' h1 h2
      have hk : k < us'.length := by rw [ulen]; exact (List.getElem?_eq_some_iff.mp h1).1
      have := vk.2 k us'[k] e' (List.getElem?_eq_getElem hk) h2
      refine this.imp id fun q => ?_
      rw [q]
      have e3 : (vsOf us')[k]? = (vsOf us)[k]? := by rw [g4]
      rw [List.getElem?_map, List.getElem?_map, List.getElem?_eq_getElem hk, h1] at e3
      simpa using e3
    have wide : ∀ {Z' H' : Hp} {ws : List Ent}, Step Z H (fpsOf (es1 ++ us')) Z' H' (fpsOf (es1 ++ ws)) → Step Z H (fpsOf (es ++ us)) Z' H' (fpsOf (es1 ++ ws)) := fun st => st.wide fun c m => g8.subset m
    refine ⟨Z, us', g1.alone g6, by rw [g4]; exact hu, ?_⟩
    cases hm : m (ssOf us') with
    | stuck => rw [hm] at k; exact k
    | exc c fs as' =>
      rw [hm] at k
      dsimp only at k
      by_cases hc : noAl as' = true
      · rw [if_pos hc] at k
        intro Z' H' ts' d st s' vk e ed
        subst e
        have na := noAl_of hc
        have nd' : (fpsOf ts').Nodup := by have := s'.nd; simpa using this
        obtain ⟨s2, st2⟩ := g1.frame2 (ws := ts') st s'.sub nd' (fun a m => s'.zf a (by simpa using m)) (fun e m => (s'.ok e (by simpa using m)).noAl (na e m))
        obtain ⟨es', b1, b2, b3, b4⟩ := Sat.back (ts := []) (us0 := us) (us1 := us') (us2 := ts') (by simpa using s2) hA hB ulen (vk.1.trans ulen) (hC vk)
        have := k Z' H' es' d ((wide st2).less fun a m => by have := b4 a (by simpa using m); simpa using this) b1 (by rw [b3, g5]; exact hv) b2 ed
        exact this
      · rw [if_neg hc] at k; exact k.elim
    | ret r as' =>
      rw [hm] at k
      dsimp only at k
      by_cases hc : noAl as' = true
      · rw [if_pos hc] at k
        intro Z' H' ts' v fv st s' vk e
        subst e
        have na := noAl_of hc
        cases hr : resOf (ssOf us) (ssOf ts') r with
        | none => rw [hr] at k; exact k.elim
        | some r' =>
          rw [hr] at k
          dsimp only at k
          -- the result as the caller sees it
          have okR := s'.ok ⟨some v, r, fv⟩ (by simp)
          have okR' : EntOk K Z' H' es1 ⟨some v, r', fv⟩ := by
            cases r with
            | un => cases hr
            | fz d => cases hr; exact okR
            | ow t d => cases hr; exact okR
            | al j =>
              obtain ⟨h0, w, x, w1, w2, w3⟩ := okR
              dsimp only at h0 w3
              subst h0
              cases w3
              unfold resOf at hr
              dsimp only at hr
              have jw : (ssOf ts')[j]? = some w.s := by rw [List.getElem?_map, w1]; rfl
              cases h1 : (ssOf us)[j]? with
              | none => rw [h1] at hr; cases hr
              | some r0 =>
                rw [h1, jw] at hr
                cases r0 with
                | un => cases hr
                | fz d => cases hr
                | ow t d => cases hr
                | al i =>
                  have jl : j < us.length := by
                    have := (List.getElem?_eq_some_iff.mp h1).1
                    simpa using this
                  have hu0 : us[j]? = some us[j] := List.getElem?_eq_getElem jl
                  have hs0 : us[j].s = .al i := by rw [List.getElem?_map, hu0] at h1; simpa using h1
                  have ok0 := s.ok us[j] (List.mem_append_right _ (List.mem_of_getElem? hu0))
                  unfold EntOk at ok0
                  rw [hs0] at ok0
                  obtain ⟨_, u, y, y1, y2, y3⟩ := ok0
                  have hwv : w.s ≠ .un → w.v = us[j].v := fun nz => (hC vk j us[j] w hu0 w1).elim (fun z => absurd z nz) id
                  have fin : w.s ≠ .un → r' = .al i → EntOk K Z' H' es1 ⟨some v, r', []⟩ := by
                    rintro nz rfl
                    have ev := hwv nz
                    rw [w2, y3] at ev
                    cases ev
                    have : (vsOf es1)[i]? = (vsOf es)[i]? := by rw [g5]
                    rw [List.getElem?_map, List.getElem?_map, y1] at this
                    cases q : es1[i]? with
                    | none => rw [q] at this; cases this
                    | some z =>
                      rw [q] at this
                      simp only [Option.map_some, Option.some.injEq] at this
                      exact ⟨rfl, z, v, q, by rw [this]; exact y2, rfl⟩
                  cases hw : w.s with
                  | un => rw [hw] at hr; cases hr
                  | al _ => rw [hw] at hr; cases hr
                  | fz d => rw [hw] at hr; cases hr; exact fin (by rw [hw]; intro z; cases z) rfl
                  | ow t d => rw [hw] at hr; cases hr; exact fin (by rw [hw]; intro z; cases z) rfl
          have efp : fpsOf (ts' ++ [⟨some v, r', fv⟩]) = fpsOf (ts' ++ [⟨some v, r, fv⟩]) := by simp [fpsOf, List.flatMap_append]
          obtain ⟨s2, st2⟩ := g1.frame2 (ws := ts' ++ [⟨some v, r', fv⟩]) (by rw [efp]; exact st) s'.sub (by rw [efp]; exact s'.nd) (fun a m => s'.zf a (by rw [efp] at m; exact m)) (fun e m => by
            rcases List.mem_append.mp m with q | q
            · exact (s'.ok e (List.mem_append_left _ q)).noAl (na e q)
            · obtain rfl := List.mem_singleton.mp q; exact okR')
          obtain ⟨es', b1, b2, b3, b4⟩ := Sat.back (ts := [⟨some v, r', fv⟩]) (us0 := us) (us1 := us') (us2 := ts') s2 hA hB ulen (vk.1.trans ulen) (hC vk)
          exact k Z' H' es' [⟨some v, r', fv⟩] ((wide st2).less b4) b1 (by rw [b3, g5]; exact hv) b2 rfl v rfl
      · rw [if_neg hc] at k; exact k.elim
end
end Mi
namespace Mi
open PySem PySem.Spec PyProof.Rows L2 Rt
section
variable {K : PySem.W.Frag} {E : EW} {E0 : XK} {kp : List Nat} {σ σ1 : L2.St} {Z H Z' H' Z1 H1 : Hp} {F F1 : List Addr} {es ts us es1 pre : List Ent} {v : V} {Q : VK}
/-- constants behind what is on the way -/
theorem Sat.consts : ∀ {dvs : List V} {dds : List D} {us : List Ent}, Paired (Leaf K) dvs dds → Sat K Z H es us → ∃ ws, Sat K Z H es (us ++ ws) ∧ vsOf ws = dvs.map some ∧ ssOf ws = dds.map .fz ∧ fpsOf (es ++ (us ++ ws)) = fpsOf (es ++ us)
  | _, _, us, .nil, s => ⟨[], by simpa using s, rfl, rfl, by simp⟩
  | _, _, us, .cons (a := v) (b := d) l t, s => by
    obtain ⟨s1, _⟩ := s.new (New.leaf s.sub l)
    obtain ⟨ws, h1, h2, h3, h4⟩ := Sat.consts t s1
    refine ⟨⟨some v, .fz d, []⟩ :: ws, by simpa using h1, by simpa using h2, by simpa using h3, ?_⟩
    have : fpsOf (es ++ (us ++ ⟨some v, .fz d, []⟩ :: ws)) = fpsOf (es ++ (us ++ [⟨some v, .fz d, []⟩] ++ ws)) := by simp
    rw [this, h4]
    simp [fpsOf, List.flatMap_append]
theorem re_callE {m : Fm} {dvs : List V} {dds : List D} {ft : FA} (hd : Paired (Leaf K) dvs dds) (h : RE K E (fCall m dds ft) σ H Q) : RA K E ft σ H fun vs H1 => spM K m (vs ++ dvs) H1 Q (E σ) := by
  obtain ⟨Z, es, s, hv, k⟩ := h
  refine RA.next (ts := []) (n := fun p => kcall m (p.1 ++ dds.map .fz) p.2) s hv (by rw [List.append_nil]; exact k) fun Z1 H1 es1 us vs e1 s1 hv1 k1 => ?_
  rw [List.nil_append] at s1 k1
  obtain ⟨ws, h1, h2, h3, h4⟩ := s1.consts hd
  refine call_sp h1 hv1 (by show (us ++ ws).map Ent.v = _; rw [List.map_append]; show vsOf us ++ vsOf ws = _; rw [e1, h2, List.map_append]) ?_
  rw [h4]
  have : ssOf (us ++ ws) = ssOf us ++ dds.map .fz := by show (us ++ ws).map Ent.s = _; rw [List.map_append]; show ssOf us ++ ssOf ws = _; rw [h3]
  rw [this]
  exact k1
theorem re_call {m : Fm} {dvs : List V} {dds : List D} {ft : FA} (hd : Paired (Leaf K) dvs dds) (h : RE K (fun _ => E0) (fCall m dds ft) σ H Q) : tCall (spM K m) dvs E0 (RA K (fun _ => E0) ft) σ H Q := re_callE hd h
def kmeth (c name : Str) (r : Sl) (ss : List Sl) : Bool := match r.val ss with
  | some (_, .ins c' fs) => decide (c' = c) && (fs.lookup name).isNone
  | _ => false
def fMeth (c name : Str) (m : Fm) (dds : List D) (fo : FE) (ft : FA) : FE := fun ss => (fo ss).bind fun p => if kmeth c name p.1 p.2 = true then (ft p.2).bind fun q => kcall m (p.1 :: (q.1 ++ dds.map .fz)) q.2 else .stuck
theorem lookup_rel {Z : Hp} {f : Str} : ∀ {gs : List (Str × V)} {fs : List (Str × D)}, gs.map (·.1) = fs.map (·.1) → FReps K Z (gs.map (·.2)) (fs.map (·.2)) →
    (gs.lookup f = none ∧ fs.lookup f = none) ∨ ∃ v d, gs.lookup f = some v ∧ fs.lookup f = some d ∧ FRep K Z v d
  | [], [], _, _ => .inl ⟨rfl, rfl⟩
  | (a, v) :: gs, (b, d) :: fs, e, h => by
    simp only [List.map_cons, List.cons.injEq] at e h
    obtain ⟨rfl, e⟩ := e
    cases h with
    | cons r t =>
      rw [List.lookup_cons, List.lookup_cons]
      cases f == a with
      | true => exact .inr ⟨v, d, rfl, rfl, r⟩
      | false => exact lookup_rel e t
  | [], _ :: _, e, _ => by cases e
  | _ :: _, [], e, _ => by cases e
theorem re_methE {c name : Str} {m : Fm} {dvs : List V} {dds : List D} {fo : FE} {ft : FA} (hd : Paired (Leaf K) dvs dds) (h : RE K E (fMeth c name m dds fo ft) σ H Q) :
    RE K E fo σ H fun x H1 => ∃ a dx fs, x = .ref a ∧ H1 a = some (.ins (He.ga K c) dx fs) ∧ fs.lookup name = none ∧ RA K E ft σ H1 fun vs H2 => spM K m (x :: (vs ++ dvs)) H2 Q (E σ) := by
  obtain ⟨Z, es, s, hv, k⟩ := h
  refine RE.next (ts := []) (n := fun p => if kmeth c name p.1 p.2 = true then (ft p.2).bind fun q => kcall m (p.1 :: (q.1 ++ dds.map .fz)) q.2 else .stuck) s hv (by rw [List.append_nil]; exact k) fun r Z1 H1 es1 x fx s1 hv1 k1 => ?_
  rw [List.nil_append] at s1 k1
  dsimp only at k1
  by_cases hk : kmeth c name r (ssOf es1) = true
  · rw [if_pos hk] at k1
    unfold kmeth at hk
    split at hk
    · rename_i t c' fs e
      rw [Bool.and_eq_true, decide_eq_true_eq] at hk
      obtain ⟨rfl, hno⟩ := hk
      obtain ⟨f, rp, _⟩ := s1.val (e := ⟨some x, r, fx⟩) (by simp) rfl e
      obtain ⟨a, dx, gs, rfl, h1, h2, h3⟩ := rep_insR s1.sub rp
      refine ⟨a, dx, gs, rfl, h1, ?_, ?_⟩
      · rcases lookup_rel (f := name) h2 h3 with ⟨q, _⟩ | ⟨_, d, _, q, _⟩
        · exact q
        · rw [q] at hno; cases hno
      · refine RA.next (n := fun q => kcall m (r :: (q.1 ++ dds.map .fz)) q.2) s1 hv1 k1 fun Z2 H2 es2 us vs e1 s2 hv2 k2 => ?_
        obtain ⟨ws, g1, g2, g3, g4⟩ := s2.consts hd
        refine call_sp (us := ⟨some (.ref a), r, fx⟩ :: (us ++ ws)) (by simpa using g1) hv2 ?_ ?_
        · show some (V.ref a) :: (us ++ ws).map Ent.v = _
          rw [List.map_append]
          show some (V.ref a) :: (vsOf us ++ vsOf ws) = _
          rw [e1, g2, List.map_cons, List.map_append]
        · have e4 : fpsOf (es2 ++ (⟨some (.ref a), r, fx⟩ :: (us ++ ws))) = fpsOf (es2 ++ ([⟨some (.ref a), r, fx⟩] ++ us)) := by
            rw [← g4]; simp
          rw [e4]
          have : ssOf (⟨some (.ref a), r, fx⟩ :: (us ++ ws)) = r :: (ssOf us ++ dds.map .fz) := by
            show r :: (us ++ ws).map Ent.s = _
            rw [List.map_append]; show r :: (ssOf us ++ ssOf ws) = _; rw [g3]
          rw [this]
          exact k2
    · cases hk
  · rw [if_neg hk] at k1
    exact k1.elim
theorem re_meth {c name : Str} {m : Fm} {dvs : List V} {dds : List D} {fo : FE} {ft : FA} (hd : Paired (Leaf K) dvs dds) (h : RE K (fun _ => E0) (fMeth c name m dds fo ft) σ H Q) :
    tMeth (He.ga K c) name (spM K m) dvs E0 (RE K (fun _ => E0) fo) (RA K (fun _ => E0) ft) σ H Q := re_methE hd h
/-- from __init__ to the class's call -/
def mkM (m : Fm) : Fm := fun as => match m as with
  | .ret (.fz .non) (.ow t d :: as') => .ret (.ow t d) (.un :: as')
  | .exc c fs as' => .exc c fs as'
  | _ => .stuck
theorem spM_mk {m : Fm} {x : Addr} {vs : List V} (h : spM K (mkM m) (.ref x :: vs) H Q E0) : spM K m (.ref x :: vs) H (fun v H2 => v = .non ∧ Q (.ref x) H2) E0 := by
  obtain ⟨Z, ts, s, hv, k⟩ := h
  refine ⟨Z, ts, s, hv, ?_⟩
  unfold mkM at k
  cases hm : m (ssOf ts) with
  | stuck => rw [hm] at k; exact k
  | exc c fs as' => rw [hm] at k; exact k
  | ret r as' =>
    rw [hm] at k
    intro Z' H' ts' v fv st s' vk e
    subst e
    cases r with
    | un => exact k.elim
    | al _ => exact k.elim
    | ow _ _ => exact k.elim
    | fz d =>
      cases d with
      | non =>
        cases ts' with
        | nil => exact k.elim
        | cons e0 rest =>
          have es0 : ssOf (e0 :: rest) = e0.s :: ssOf rest := rfl
          rw [es0] at k
          cases hs : e0.s with
          | un => rw [hs] at k; exact k.elim
          | fz _ => rw [hs] at k; exact k.elim
          | al _ => rw [hs] at k; exact k.elim
          | ow t d =>
            rw [hs] at k
            have okv := s'.ok ⟨some v, .fz .non, fv⟩ (by simp)
            obtain ⟨y, y1, y2, y3⟩ := okv
            cases y1
            cases y2.leaf_of (d := .non) rfl
            refine ⟨rfl, ?_⟩
            dsimp only at y3
            subst y3
            have hv0 : e0.v = some (.ref x) := by
              cases ts with
              | nil => cases hv
              | cons t0 ts =>
                have : t0.v = some (.ref x) := by
                  have hv' : t0.v :: vsOf ts = some (.ref x) :: vs.map some := hv
                  exact (List.cons.inj hv').1
                rcases vk.2 0 t0 e0 rfl rfl with z | z
                · rw [hs] at z; cases z
                · rw [z]; exact this
            have pm : (fpsOf ((⟨e0.v, .un, []⟩ :: rest) ++ [⟨some (.ref x), .ow t d, e0.fp⟩])).Perm (fpsOf ((e0 :: rest) ++ [⟨some .non, .fz .non, []⟩])) := by
              simp only [fpsOf, List.flatMap_append, List.flatMap_cons, List.flatMap_nil]
              rw [List.perm_iff_count]
              intro a
              simp only [List.count_append, List.nil_append, List.append_nil, List.count_nil]
              omega
            refine k Z' H' (⟨e0.v, .un, []⟩ :: rest) (.ref x) e0.fp (st.less fun a m => pm.subset m) ⟨s'.sub, pm.symm.nodup s'.nd, fun a m => s'.zf a (pm.subset m), fun e m => ?_⟩ ⟨vk.1, fun k' e e' h1 h2 => ?_⟩ rfl
            · have hvs : vsOf (⟨e0.v, .un, []⟩ :: rest) = vsOf (e0 :: rest) := rfl
              have go : ∀ e, EntOk K Z' H' (e0 :: rest) e → EntOk K Z' H' (⟨e0.v, .un, []⟩ :: rest) e := fun e ok => ok.frame (Le.refl _) (fun _ _ _ q => q) hvs
              rcases List.mem_append.mp m with q | q
              · rcases List.mem_cons.mp q with q | q
                · subst q; rfl
                · exact go e (s'.ok e (List.mem_append_left _ (List.mem_cons_of_mem _ q)))
              · obtain rfl := List.mem_singleton.mp q
                have ok0 := s'.ok e0 (by simp)
                unfold EntOk at ok0 ⊢
                rw [hs] at ok0
                obtain ⟨z, z1, z2⟩ := ok0
                rw [hv0] at z1; cases z1
                exact ⟨_, rfl, z2⟩
            · cases k' with
              | zero => simp at h2; subst h2; exact .inl rfl
              | succ k' => exact vk.2 (k' + 1) e e' h1 (by simpa using h2)
      | _ => exact k.elim
/-- tg: what of the new instance will be owned -/
def fMake (c : Str) (tg : Tg) (m : Fm) (dds : List D) (ft : FA) : FE := fun ss => (ft ss).bind fun p => kcall (mkM m) (.ow tg (.ins c []) :: (p.1 ++ dds.map .fz)) p.2
theorem rep_new {tg : Tg} {H : Hp} {x dx : Addr} {c : Str} (ht : tg ≠ .fz) (h : H x = some (.ins (He.ga K c) dx [])) : Rep K Z H tg (.ref x) (.ins c []) [x] := by
  cases tg with
  | fz => exact absurd rfl ht
  | o1 => exact .inr ⟨x, _, _, _, _, rfl, h, rfl, rfl, .nil, rfl⟩
  | nd c' => exact .inr ⟨x, _, _, _, _, [], rfl, h, rfl, rfl, rfl, rfl⟩
theorem re_makeE {c : Str} {tg : Tg} {m : Fm} {dvs : List V} {dds : List D} {ft : FA} (ht : tg ≠ .fz) (hd : Paired (Leaf K) dvs dds) (h : RE K E (fMake c tg m dds ft) σ H Q) :
    RA K E ft σ H fun vs H1 => ∀ x dx, H1 x = none → H1 dx = none → dx ≠ x → spM K m (.ref x :: (vs ++ dvs)) (upd (upd H1 dx (.own x)) x (.ins (He.ga K c) dx [])) (fun v H2 => v = .non ∧ Q (.ref x) H2) (E σ) := by
  obtain ⟨Z, es, s, hv, k⟩ := h
  refine RA.next (ts := []) (n := fun p => kcall (mkM m) (.ow tg (.ins c []) :: (p.1 ++ dds.map .fz)) p.2) s hv (by rw [List.append_nil]; exact k) fun Z1 H1 es1 us vs e1 s1 hv1 k1 => ?_
  rw [List.nil_append] at s1 k1
  intro x dx nx ndx ne
  refine spM_mk ?_
  obtain ⟨ws, h1, h2, h3, h4⟩ := s1.consts hd
  have n1 : upd H1 dx (.own x) x = none := by rw [upd_ne (Ne.symm ne)]; exact nx
  have nw : New K Z1 H1 Z1 (upd (upd H1 dx (.own x)) x (.ins (He.ga K c) dx [])) (.ref x) (.ow tg (.ins c [])) [x] := by
    refine ⟨⟨fun a u e _ => ?_, fun a m => .inr (by simp at m; subst m; exact nx), Le.refl _, fun _ _ e => .inl e⟩, (s1.sub.upd ndx).upd n1, ⟨.ref x, rfl, rep_new ht upd_same⟩, by simp, fun a m => ?_⟩
    · rw [upd_ne (ne_of_none e nx), upd_ne (ne_of_none e ndx)]; exact .inl e
    · simp at m; subst m; exact s1.sub.zn nx
  obtain ⟨s2, st2⟩ := h1.new nw
  -- the new one goes first
  have pm : (fpsOf (es1 ++ (⟨some (.ref x), .ow tg (.ins c []), [x]⟩ :: (us ++ ws)))).Perm (fpsOf (es1 ++ (us ++ ws ++ [⟨some (.ref x), .ow tg (.ins c []), [x]⟩]))) := by
    simp only [fpsOf, List.flatMap_append, List.flatMap_cons, List.flatMap_nil]
    rw [List.perm_iff_count]
    intro a
    simp only [List.count_append, List.append_nil]
    omega
  have s3 : Sat K Z1 (upd (upd H1 dx (.own x)) x (.ins (He.ga K c) dx [])) es1 (⟨some (.ref x), .ow tg (.ins c []), [x]⟩ :: (us ++ ws)) := by
    refine ⟨s2.sub, pm.symm.nodup s2.nd, fun a m => s2.zf a (pm.subset m), fun e m => s2.ok e ?_⟩
    rcases List.mem_append.mp m with q | q
    · exact List.mem_append_left _ q
    · rcases List.mem_cons.mp q with q | q
      · subst q; simp
      · exact List.mem_append_right _ (List.mem_append_left _ q)
  refine call_sp s3 hv1 ?_ ?_
  · show some (V.ref x) :: (us ++ ws).map Ent.v = _
    rw [List.map_append]
    show some (V.ref x) :: (vsOf us ++ vsOf ws) = _
    rw [e1, h2, List.map_cons, List.map_append]
  · have : ssOf (⟨some (.ref x), .ow tg (.ins c []), [x]⟩ :: (us ++ ws)) = .ow tg (.ins c []) :: (ssOf us ++ dds.map .fz) := by
      show Sl.ow tg (.ins c []) :: (us ++ ws).map Ent.s = _
      rw [List.map_append]; show _ :: (ssOf us ++ ssOf ws) = _; rw [h3]
    rw [this]
    refine Kon.from (st2.less fun a m => pm.subset m) ?_
    rw [h4]
    exact k1
theorem re_make {c : Str} {tg : Tg} {m : Fm} {dvs : List V} {dds : List D} {ft : FA} (ht : tg ≠ .fz) (hd : Paired (Leaf K) dvs dds) (h : RE K (fun _ => E0) (fMake c tg m dds ft) σ H Q) :
    tMake (He.ga K c) (spM K m) dvs E0 (RA K (fun _ => E0) ft) σ H Q := re_makeE ht hd h
end
end Mi
namespace Mi
open PySem PySem.Spec PyProof.Rows L2 Rt
section
variable {K : PySem.W.Frag} {E : EW} {E0 : XK} {kp : List Nat} {σ σ1 : L2.St} {Z H Z' H' Z1 H1 : Hp} {F F1 : List Addr} {es ts us es1 pre : List Ent} {v : V} {Q : VK}
theorem re_un {r : V → Hp → VK → Prop} {op : Tg → D → Option Sl} {fa : FE} (h : Op1 K r op) (q : RE K E (f1 op fa) σ H Q) : tUn r (RE K E fa) σ H Q := ref1 h q
theorem re_op {r : R2} {op : Tg → D → Tg → D → Option Sl} {fa fb : FE} (h : Op2 K r op) (q : RE K E (f2 op fa fb) σ H Q) : tOp r (RE K E fa) (RE K E fb) σ H Q := ref2 h q
theorem re_cb {r : List V → Hp → VK → Prop} {op : List (Tg × D) → Option Sl} {ft : FA} (h : OpN K r op) (q : RE K E (fN op ft) σ H Q) : tCB r (RA K E ft) σ H Q := refN h q
/-- not x, by truth -/
def opNot (_ : Tg) (d : D) : Option Sl := (truD d).map fun b => .fz (.bl (!b))
theorem re_notT {fa : FE} (q : RE K E (f1 opNot fa) σ H Q) : tNotT K (RE K E fa) σ H Q := by
  refine ref1 (r := fun x H1 Q => ∃ k, TruV K x H1 k ∧ Q (.bl (!k)) H1) ?_ q
  intro Z H t d v fp res Q s h e k
  obtain ⟨b, e1, rfl⟩ := Option.map_eq_some_iff.mp e
  exact ⟨b, tru_of s h e1, nl s k (.bl _)⟩
def opAbs : List (Tg × D) → Option Sl
  | [(_, .int a)] => some (.fz (.int (a.natAbs : Nat)))
  | _ => none
theorem op_abs_ok : OpN K rAbsV opAbs := by
  intro Z H vs xs res Q s hs h k
  unfold opAbs at h
  split at h
  · rename_i t a
    cases h
    cases hs with
    | cons h1 hs =>
      cases hs
      obtain ⟨f, h1⟩ := h1
      rw [rep_int s h1]
      refine ⟨a, rfl, ?_⟩
      have e : (if a < 0 then -a else a) = ((a.natAbs : Nat) : Int) := by split <;> omega
      rw [e]
      exact nl s k (.int _)
  · cases h
def opLen : List (Tg × D) → Option Sl
  | [(_, .lst xs)] => some (.fz (.int (xs.length : Nat)))
  | [(_, .tup xs)] => some (.fz (.int (xs.length : Nat)))
  | [(_, .scr xs)] => some (.fz (.int (xs.length : Nat)))
  | [(_, .str x)] => if x.length ≤ sizeLine then some (.fz (.int (x.length : Nat))) else none
  | _ => none
theorem op_len_ok : OpN K (rLenU K) opLen := by
  intro Z H vs xs res Q s hs h k
  unfold opLen at h
  split at h
  · cases h
    cases hs with
    | cons h1 hs =>
      cases hs
      obtain ⟨f, h1⟩ := h1
      obtain ⟨a, vs, rfl, q, fr⟩ := rep_lstR s h1
      exact .inl ⟨a, vs, rfl, .inl (.of q), by rw [fr.len]; exact nl s k (.int _)⟩
  · cases h
    cases hs with
    | cons h1 hs =>
      cases hs
      obtain ⟨f, h1⟩ := h1
      obtain ⟨a, vs, rfl, q, fr⟩ := rep_tupR s h1
      exact .inl ⟨a, vs, rfl, .inr q, by rw [fr.len]; exact nl s k (.int _)⟩
  · cases h
    cases hs with
    | cons h1 hs =>
      cases hs
      obtain ⟨f, h1⟩ := h1
      obtain ⟨a, rfl, q⟩ := rep_scr s h1
      exact .inl ⟨a, _, rfl, .inl q, by rw [List.length_map]; exact nl s k (.int _)⟩
  · split at h
    · rename_i hl
      cases h
      cases hs with
      | cons h1 hs =>
        cases hs
        obtain ⟨f, h1⟩ := h1
        rw [rep_str s h1]
        exact .inr ⟨_, rfl, hl, nl s k (.int _)⟩
    · cases h
  · cases h
def opList : List (Tg × D) → Option Sl
  | [(t, .lst xs)] => if t.flat = true then some (.ow .o1 (.lst xs)) else none
  | [(t, .tup xs)] => if t.flat = true then some (.ow .o1 (.lst xs)) else none
  | _ => none
theorem op_list_ok : OpN K (rListOf K) opList := by
  intro Z H vs xs res Q s hs h k
  unfold opList at h
  split at h
  · split at h
    · rename_i hf
      cases h
      cases hs with
      | cons h1 hs =>
        cases hs
        obtain ⟨f, h1⟩ := h1
        obtain ⟨a, vs, rfl, q, fr⟩ := rep_lst hf s h1
        exact ⟨a, vs, rfl, .inl (.of q), fun l nl => k _ _ _ _ (New.o1 s nl rfl rfl fr)⟩
    · cases h
  · split at h
    · rename_i hf
      cases h
      cases hs with
      | cons h1 hs =>
        cases hs
        obtain ⟨f, h1⟩ := h1
        obtain ⟨a, vs, rfl, q, fr⟩ := rep_tup hf s h1
        exact ⟨a, vs, rfl, .inr q, fun l nl => k _ _ _ _ (New.o1 s nl rfl rfl fr)⟩
    · cases h
  · cases h
def opTupOf : List (Tg × D) → Option Sl
  | [(t, .lst xs)] => if t.flat = true then some (.fz (.tup xs)) else none
  | [(.fz, .tup xs)] => some (.fz (.tup xs))
  | _ => none
theorem op_tupof_ok : OpN K (rTupOf K) opTupOf := by
  intro Z H vs xs res Q s hs h k
  unfold opTupOf at h
  split at h
  · split at h
    · rename_i hf
      cases h
      cases hs with
      | cons h1 hs =>
        cases hs
        obtain ⟨f, h1⟩ := h1
        obtain ⟨a, vs, rfl, q, fr⟩ := rep_lst hf s h1
        exact ⟨a, vs, rfl, .inl ⟨.of q, fun l nl => k _ _ _ _ (New.fzo s nl rfl rfl fr)⟩⟩
    · cases h
  · cases h
    cases hs with
    | cons h1 hs =>
      cases hs
      obtain ⟨f, h1⟩ := h1
      obtain ⟨a, vs, rfl, q, fr⟩ := rep_tup (t := .fz) rfl s h1
      exact ⟨a, vs, rfl, .inr ⟨q, k _ _ _ _ (New.fz s h1.1)⟩⟩
  · cases h
abbrev FO := List Sl → Ro (Option Int × List Sl)
def RO (K : PySem.W.Frag) (E : EW) (f : FO) : L2.St → Hp → (Option Int → Hp → Prop) → Prop := fun σ H Q => ∃ Z es, Sat K Z H es [] ∧ vsOf es = σ ∧ Kon K E σ Z H (fpsOf es) (f (ssOf es)) (fun _ => []) fun b _ H' _ _ => Q b H'
def fNoPart : FO := fun ss => .ok (none, ss)
def kpart (r : Sl) (ss : List Sl) : Ro (Option Int × List Sl) := match r.val ss with
  | some (_, .int i) => .ok (some i, ss)
  | _ => .stuck
def fPart (fa : FE) : FO := fun ss => (fa ss).bind fun p => kpart p.1 p.2
theorem ro_no {R : Option Int → Hp → Prop} (h : RO K E fNoPart σ H R) : tNoPart σ H R := by
  obtain ⟨Z, es, s, hv, k⟩ := h
  exact k Z H es [] (Step.refl fun a m => by simpa using m) s hv rfl rfl
theorem ro_part {fa : FE} {R : Option Int → Hp → Prop} (h : RO K E (fPart fa) σ H R) : tPart (RE K E fa) σ H R := by
  obtain ⟨Z, es, s, hv, k⟩ := h
  refine RE.next (ts := []) (n := fun p => kpart p.1 p.2) s hv (by rw [List.append_nil]; exact k) fun r Z1 H1 es1 v fp s1 hv1 k1 => ?_
  dsimp only at k1
  unfold kpart at k1
  split at k1
  · rename_i t i e
    obtain ⟨f, rp, _⟩ := s1.val (e := ⟨some v, r, fp⟩) (by simp) rfl e
    refine ⟨i, rep_int s1.sub rp, ?_⟩
    exact k1 Z1 H1 es1 [] (Step.refl fun a m => by rw [List.append_nil] at m; exact fps_app.mpr (.inl m)) s1.bare hv1 rfl rfl
  · exact k1.elim
theorem RO.next {β : Type} {f : FO} {n : Option Int × List Sl → Ro (β × List Sl)} {rs : β → List Sl} {P : β → Hp → Hp → List Ent → List Ent → Prop} {R : Option Int → Hp → Prop} (s : Sat K Z1 H1 es1 ts) (hv : vsOf es1 = σ) (k : Kon K E σ Z1 H1 (fpsOf (es1 ++ ts)) ((f (ssOf es1)).bind n) rs P)
    (h : ∀ b Z2 H2 es2, Sat K Z2 H2 es2 ts → vsOf es2 = σ → Kon K E σ Z2 H2 (fpsOf (es2 ++ ts)) (n (b, ssOf es2)) rs P → R b H2) : RO K E f σ H1 R := by
  refine ⟨Z1, es1, s.bare, hv, kon_next s hv k fun a Z2 H2 es2 us e1 s2 e2 k2 => ?_⟩
  obtain rfl : us = [] := by simpa using e1
  rw [List.append_nil] at s2 k2
  exact h a Z2 H2 es2 s2 e2 k2
def cutD (xs : List α) (lo hi : Option Int) : List α := (xs.drop (HT.sIx xs.length 0 lo)).take (HT.sIx xs.length xs.length hi - HT.sIx xs.length 0 lo)
theorem cutD_fr {vs : List V} {ds : List D} (h : FReps K Z vs ds) (lo hi : Option Int) : FReps K Z (cutV vs lo hi) (cutD ds lo hi) := by
  unfold cutV cutD
  rw [h.len]
  exact (h.drop _).take _
def opSl (t : Tg) (d : D) (lo hi : Option Int) : Option Sl := match d with
  | .lst xs => if t.flat = true then some (.ow .o1 (.lst (cutD xs lo hi))) else none
  | .scr xs => some (.ow .o1 (.lst ((cutD xs lo hi).map .int)))
  | .str z => if z.length ≤ sizeLine then some (.fz (.str (cutS z lo hi))) else none
  | .tup xs => if t.flat = true ∧ ¬ (HT.sIx xs.length 0 lo = 0 ∧ HT.sIx xs.length xs.length hi = xs.length) then some (.fz (.tup (cutD xs lo hi))) else none
  | _ => none
def rSlW (K : PySem.W.Frag) : V → Option Int → Option Int → Hp → VK → Prop := fun x lo hi H Q => rSlU K x lo hi H Q ∨ rSlS x lo hi H Q
theorem sl_W {X : Cx} : SlR X (rSlW X.K) := sl_U.or sl_str
theorem FReps.ofInts : ∀ xs : List Int, FReps K Z (xs.map V.int) (xs.map D.int)
  | [] => .nil
  | x :: r => .cons (.leaf (.int x)) (FReps.ofInts r)
theorem op_sl_ok {Z H : Hp} {t : Tg} {d : D} {v : V} {fp : List Addr} {lo hi : Option Int} {res : Sl} {Q : VK} (s : SubM K Z H) (h : Rep K Z H t v d fp) (e : opSl t d lo hi = some res) (k : ∀ Z' H' u fu, New K Z H Z' H' u res fu → Q u H') : rSlW K v lo hi H Q := by
  unfold opSl at e
  split at e
  · split at e
    · rename_i hf
      cases e
      obtain ⟨a, vs, rfl, q, fr⟩ := rep_lst hf s h
      exact .inl (.inl ⟨a, vs, rfl, .of q, fun p np => k _ _ _ _ (New.o1 s np rfl rfl (cutD_fr fr lo hi))⟩)
    · cases e
  · cases e
    rename_i xs
    obtain ⟨a, rfl, q⟩ := rep_scr s h
    refine .inl (.inl ⟨a, _, rfl, q, fun p np => k _ _ _ _ (New.o1 (vs := cutV (xs.map V.int) lo hi) s np rfl rfl ?_)⟩)
    have : (cutD xs lo hi).map D.int = cutD (xs.map D.int) lo hi := by
      unfold cutD
      rw [List.map_take, List.map_drop, List.length_map]
    rw [this]
    exact cutD_fr (FReps.ofInts xs) lo hi
  · split at e
    · rename_i hl
      cases e
      rw [rep_str s h]
      exact .inr ⟨_, rfl, hl, nl s k (.str _)⟩
    · cases e
  · split at e
    · rename_i hf
      cases e
      obtain ⟨a, vs, rfl, q, fr⟩ := rep_tup hf.1 s h
      refine .inl (.inr ⟨a, vs, rfl, q, by rw [fr.len]; exact hf.2, fun p np => k _ _ _ _ (New.fzo s np rfl rfl (cutD_fr fr lo hi))⟩)
    · cases e
  · cases e
def ksl (a : Sl) (lo hi : Option Int) (ss : List Sl) : Ro (Sl × List Sl) := orS ((a.val ss).bind fun x => opSl x.1 x.2 lo hi) ss
def fSl (fa : FE) (fl fh : FO) : FE := fun ss => (fa ss).bind fun p => (fl p.2).bind fun l => (fh l.2).bind fun u => ksl p.1 l.1 u.1 u.2
theorem re_sl {fa : FE} {fl fh : FO} (h : RE K E (fSl fa fl fh) σ H Q) : L2.tSl (rSlW K) (RE K E fa) (RO K E fl) (RO K E fh) σ H Q := by
  obtain ⟨Z, es, s, hv, k⟩ := h
  refine RE.next (ts := []) (n := fun p => (fl p.2).bind fun l => (fh l.2).bind fun u => ksl p.1 l.1 u.1 u.2) s hv (by rw [List.append_nil]; exact k) fun a Z1 H1 es1 v fp s1 hv1 k1 => ?_
  refine RO.next (n := fun l => (fh l.2).bind fun u => ksl a l.1 u.1 u.2) s1 hv1 k1 fun l Z2 H2 es2 s2 hv2 k2 => ?_
  refine RO.next (n := fun u => ksl a l u.1 u.2) s2 hv2 k2 fun u Z3 H3 es3 s3 hv3 k3 => ?_
  obtain ⟨r, hr, k4⟩ := Kon.some k3
  obtain ⟨⟨t, d⟩, h1, h2⟩ := Option.bind_eq_some_iff.mp hr
  obtain ⟨f, rp, _⟩ := s3.val (e := ⟨some v, a, fp⟩) (by simp) rfl h1
  exact op_sl_ok s3.sub rp h2 fun Z' H' u fu n => fin_new s3 hv3 k4 n
/-- the classes cs have a field f -/
def opFld (cs : List Str) (f : Str) (t : Tg) (d : D) : Option Sl := match d with
  | .ins c fs => if c ∈ cs then (fs.lookup f).bind (partSl t) else none
  | _ => none
def FldOk (K : PySem.W.Frag) (cs : List Str) (f : Str) : Prop := ∀ c ∈ cs, Cls K (He.ga K c) ∧ NoAttr K (He.ga K c) f
theorem re_fld {cs : List Str} {f : Str} {fa : FE} (C : FldOk K cs f) (h : RE K E (f1 (opFld cs f) fa) σ H Q) : tFld K (RE K E fa) f σ H Q := by
  refine ref1 (r := fun x H1 Q => ∃ a C dx fs v, x = .ref a ∧ H1 a = some (.ins C dx fs) ∧ Cls K C ∧ NoAttr K C f ∧ fs.lookup f = some v ∧ Q v H1) ?_ h
  intro Z H t d v fp res Q s hr e k
  unfold opFld at e
  split at e
  · rename_i c fs
    split at e
    · rename_i hc
      obtain ⟨x, e1, e2⟩ := Option.bind_eq_some_iff.mp e
      obtain ⟨a, dx, gs, rfl, q1, q2, q3⟩ := rep_insR s hr
      rcases lookup_rel (f := f) q2 q3 with ⟨_, z⟩ | ⟨y, d', z1, z2, z3⟩
      · rw [z] at e1; cases e1
      · rw [e1] at z2; cases z2
        refine ⟨a, _, dx, gs, y, rfl, q1, (C c hc).1, (C c hc).2, z1, part_of s e2 (fun hf => ?_) z3 k⟩
        obtain ⟨b, dx', gs', e5, p1, p2, p3⟩ := rep_ins hf s hr
        cases e5; rw [q1] at p1; cases p1
        rcases lookup_rel (f := f) p2 p3 with ⟨_, z⟩ | ⟨y', d', w1, w2, w3⟩
        · rw [z] at e1; cases e1
        · rw [e1] at w2; cases w2; rw [z1] at w1; cases w1; exact w3
    · cases e
  · cases e
def iSeqF (fa : FE) : FI := fun ss => (ffrz fa ss).bind fun p => match p.1 with
  | .fz (.lst xs) => .ok (xs, p.2)
  | .fz (.tup xs) => .ok (xs, p.2)
  | _ => .stuck
theorem walk_list {L : Hp} {a : Addr} {vs : List V} {ds : List D} (h : ∀ Z' H', Le Z Z' → SubM K Z' H' → SqL K H' a vs) (hs : FReps K Z vs ds) : Walk K Z L (Itl K a) ds := by
  refine ⟨fun i Z' H' le su _ hi => ?_, fun Z' H' le su _ => ?_, fun i Z' H' x H'' d le su _ hd y => ?_⟩
  · have hi' : i < vs.length := by rw [hs.len]; exact hi
    exact ⟨vs, vs[i], h Z' H' le su, List.getElem?_eq_getElem hi'⟩
  · exact ⟨vs, h Z' H' le su, by rw [hs.len]; exact Nat.le_refl _⟩
  · obtain ⟨e, y⟩ := y
    subst e
    obtain ⟨w, h1, h2⟩ := hs.get hd
    have := y vs (h Z' _ le su)
    rw [h1] at this; cases this
    exact ⟨Z', New.fz su (h2.mono le)⟩
theorem walk_tup {L : Hp} {a : Addr} {vs : List V} {ds : List D} (h : ∀ Z' H', Le Z Z' → SubM K Z' H' → SqT K H' a vs) (hs : FReps K Z vs ds) : Walk K Z L (Itt K a) ds := by
  refine ⟨fun i Z' H' le su _ hi => ?_, fun Z' H' le su _ => ?_, fun i Z' H' x H'' d le su _ hd y => ?_⟩
  · have hi' : i < vs.length := by rw [hs.len]; exact hi
    exact ⟨vs, vs[i], h Z' H' le su, List.getElem?_eq_getElem hi'⟩
  · exact ⟨vs, h Z' H' le su, by rw [hs.len]; exact Nat.le_refl _⟩
  · obtain ⟨e, y⟩ := y
    subst e
    obtain ⟨w, h1, h2⟩ := hs.get hd
    have := y vs (h Z' _ le su)
    rw [h1] at this; cases this
    exact ⟨Z', New.fz su (h2.mono le)⟩
theorem fin_i {R : It → Hp → Prop} {ds : List D} {J : It} (s : Sat K Z H es ts) (hv : vsOf es = σ) (w : Walk K Z (fun _ => none) J ds) (k : Kon K E σ Z H (fpsOf (es ++ ts)) (.ok (ds, ssOf es)) (fun _ => []) fun ds Z' H' _ _ => ∀ J L, LkIn L Z' H' → Walk K Z' L J ds → R J H') : R J H :=
  k Z H es [] (Step.refl fun a m => by rw [List.append_nil] at m; exact fps_app.mpr (.inl m)) s.bare hv rfl rfl J _ .no w
theorem FRep.lst_at {v : V} {ds : List D} (h : FRep K Z v (.lst ds)) : ∃ a vs, v = .ref a ∧ (∀ Z' H', Le Z Z' → SubM K Z' H' → SqL K H' a vs) ∧ FReps K Z vs ds := by
  obtain ⟨a, vs, h1, h2, h3⟩ := h.node_of (k := .lst) (ds := ds) rfl
  refine ⟨a, vs, h1, fun Z' H' le su => ?_, h2⟩
  rcases h3 with ⟨o, h3, h4⟩ | q
  · rw [oview_lst h4] at h3
    exact .inl (su.rd (le _ _ h3))
  · exact q.elim
theorem FRep.tup_at {v : V} {ds : List D} (h : FRep K Z v (.tup ds)) : ∃ a vs, v = .ref a ∧ (∀ Z' H', Le Z Z' → SubM K Z' H' → SqT K H' a vs) ∧ FReps K Z vs ds := by
  obtain ⟨a, vs, h1, h2, h3⟩ := h.node_of (k := .tup) (ds := ds) rfl
  refine ⟨a, vs, h1, fun Z' H' le su => ?_, h2⟩
  rcases h3 with ⟨o, h3, h4⟩ | q
  · rw [oview_tup h4] at h3
    exact .inl (su.rd (le _ _ h3))
  · exact sqT_wr su.toSub (q.imp id (TupX.mono le))
theorem ri_seq {fa : FE} {R : It → Hp → Prop} (h : RI K E (iSeqF fa) σ H R) : iSeq K (RE K E fa) σ H R := by
  obtain ⟨Z, es, s, hv, k⟩ := h
  let nL : Sl × List Sl → Ro (List D × List Sl) := fun p => match p.1 with
    | .fz (.lst xs) => .ok (xs, p.2)
    | _ => .stuck
  let nT : Sl × List Sl → Ro (List D × List Sl) := fun p => match p.1 with
    | .fz (.tup xs) => .ok (xs, p.2)
    | _ => .stuck
  have goL : Kon K E σ Z H (fpsOf es) ((ffrz fa (ssOf es)).bind nL) (fun _ => []) (fun ds Z' H' _ _ => ∀ J L, LkIn L Z' H' → Walk K Z' L J ds → R J H') → iSeq K (RE K E fa) σ H R := fun k => by
    refine .inl (re_frz (RE.next (ts := []) (n := nL) s hv (by rw [List.append_nil]; exact k) fun r Z1 H1 es1 v fp s1 hv1 k1 => ?_))
    change Kon K E σ Z1 H1 _ (match r with | .fz (.lst xs) => .ok (xs, ssOf es1) | _ => .stuck) _ _ at k1
    split at k1
    · rename_i xs
      obtain ⟨y, y1, y2, y3⟩ := s1.ok ⟨some v, .fz (.lst xs), fp⟩ (by simp)
      cases y1
      obtain ⟨a, vs, rfl, q, fr⟩ := y2.lst_at
      exact ⟨a, rfl, ⟨vs, q _ _ (Le.refl _) s1.sub⟩, fin_i s1 hv1 (walk_list q fr) k1⟩
    · exact k1.elim
  have goT : Kon K E σ Z H (fpsOf es) ((ffrz fa (ssOf es)).bind nT) (fun _ => []) (fun ds Z' H' _ _ => ∀ J L, LkIn L Z' H' → Walk K Z' L J ds → R J H') → iSeq K (RE K E fa) σ H R := fun k => by
    refine .inr (re_frz (RE.next (ts := []) (n := nT) s hv (by rw [List.append_nil]; exact k) fun r Z1 H1 es1 v fp s1 hv1 k1 => ?_))
    change Kon K E σ Z1 H1 _ (match r with | .fz (.tup xs) => .ok (xs, ssOf es1) | _ => .stuck) _ _ at k1
    split at k1
    · rename_i xs
      obtain ⟨y, y1, y2, y3⟩ := s1.ok ⟨some v, .fz (.tup xs), fp⟩ (by simp)
      cases y1
      obtain ⟨a, vs, rfl, q, fr⟩ := y2.tup_at
      exact ⟨a, rfl, ⟨vs, q _ _ (Le.refl _) s1.sub⟩, fin_i s1 hv1 (walk_tup q fr) k1⟩
    · exact k1.elim
  unfold iSeqF at k
  cases hf : ffrz fa (ssOf es) with
  | stuck => rw [hf] at k; exact k.elim
  | exc c fs ss => rw [hf] at k goL; exact goL k
  | ok p =>
    obtain ⟨r, s1⟩ := p
    rw [hf] at k goL goT
    cases r with
    | fz d =>
      cases d with
      | lst xs => exact goL k
      | tup xs => exact goT k
      | _ => exact k.elim
    | _ => exact k.elim
def rangeD (lo : Int) (n : Nat) : List D := (List.range n).map fun i => .int (lo + (i : Nat))
theorem rangeD_len (lo : Int) (n : Nat) : (rangeD lo n).length = n := by simp [rangeD]
theorem rangeD_get {lo : Int} {n i : Nat} {d : D} (h : (rangeD lo n)[i]? = some d) : d = .int (lo + (i : Nat)) := by
  unfold rangeD at h
  rw [List.getElem?_map] at h
  cases q : (List.range n)[i]? with
  | none => rw [q] at h; cases h
  | some j =>
    rw [q] at h
    have hj : j = i := by
      have := List.getElem?_eq_some_iff.mp q
      obtain ⟨h1, h2⟩ := this
      rw [List.getElem_range] at h2; exact h2.symm
    subst hj
    simpa using h.symm
theorem walk_range (lo : Int) (n : Nat) : Walk K Z (fun _ => none) (Itr lo n) (rangeD lo n) := by
  refine ⟨fun i Z' H' le su _ hi => by rw [rangeD_len] at hi; exact hi, fun Z' H' le su _ => by rw [rangeD_len]; exact Nat.le_refl _, fun i Z' H' x H'' d le su _ hd y => ?_⟩
  obtain ⟨e, e2⟩ := y
  subst e e2
  rw [rangeD_get hd]
  exact ⟨Z', New.leaf su (.int _)⟩
def inRg (i : Int) : Prop := -(2 ^ 62) ≤ i ∧ i < 2 ^ 62
instance {i : Int} : Decidable (inRg i) := inferInstanceAs (Decidable (_ ∧ _))
def krng (rs : List Sl) (ss : List Sl) : Ro (List D × List Sl) := match valL ss rs with
  | some [(_, .int j)] => if inRg j then .ok (rangeD 0 j.toNat, ss) else .stuck
  | some [(_, .int i), (_, .int j)] => if inRg i ∧ inRg j then .ok (rangeD i (j - i).toNat, ss) else .stuck
  | _ => .stuck
def iRngF (ft : FA) : FI := fun ss => (ft ss).bind fun p => krng p.1 p.2
theorem valL_len {ss : List Sl} : ∀ {rs : List Sl} {xs : List (Tg × D)}, valL ss rs = some xs → xs.length = rs.length
  | [], _, h => by cases h; rfl
  | r :: rs, _, h => by
    obtain ⟨x, h1, h2⟩ := Option.bind_eq_some_iff.mp h
    obtain ⟨ys, h3, h4⟩ := Option.bind_eq_some_iff.mp h2
    cases h4
    rw [List.length_cons, List.length_cons, valL_len h3]
theorem ri_rng1 {fa : FE} {R : It → Hp → Prop} (h : RI K E (iRngF (fcons fa fnil)) σ H R) : iRng1 (RA K E (fcons fa fnil)) σ H R := by
  obtain ⟨Z, es, s, hv, k⟩ := h
  unfold iRngF at k
  have e0 : (fcons fa fnil (ssOf es)).bind (fun p => krng p.1 p.2) = (fcons fa fnil (ssOf es)).bind (fun p => if p.1.length = 1 then krng p.1 p.2 else .stuck) := by
    unfold fcons fnil
    cases fa (ssOf es) <;> rfl
  rw [e0, ← List.append_nil es] at k
  refine RA.next (ts := []) (n := fun p => if p.1.length = 1 then krng p.1 p.2 else .stuck) s hv (by simpa only [List.append_nil] using k) fun Z1 H1 es1 us vs e1 s1 hv1 k1 => ?_
  · rw [List.nil_append] at s1 k1
    dsimp only at k1
    split at k1
    · rename_i hl
      unfold krng at k1
      split at k1
      · rename_i t j e
        have ar := s1.vals (fun u m => List.mem_append_right _ m) e1 e
        cases ar with
        | cons a1 a2 =>
          cases a2
          obtain ⟨f, a1⟩ := a1
          rw [rep_int s1.sub a1]
          split at k1
          · rename_i hr
            exact ⟨j, rfl, hr.1, hr.2, fin_i s1 hv1 (walk_range 0 j.toNat) k1⟩
          · exact k1.elim
      · rename_i t i u j e
        have := valL_len e
        simp at this
        have hl' : us.length = 1 := by simpa using hl
        omega
      · exact k1.elim
    · exact k1.elim
end
end Mi
namespace Mi
open PySem PySem.Spec PyProof.Rows L2 Rt
/-- no exception leaves -/
abbrev noE : EW := fun _ _ _ _ => False
def Ro.nox {α : Type} : Ro α → Ro α
  | .exc _ _ _ => .stuck
  | m => m
def wipeS (ss : List Sl) : List Nat → List Sl
  | [] => ss
  | v :: vs => setS v .un (wipeS ss vs)
def restS (s0 ss : List Sl) : List Nat → List Sl
  | [] => ss
  | v :: vs => setS v ((s0[v]?).getD .un) (restS s0 ss vs)
def kpC (n : Nat) (vs : List Nat) : List Nat := (List.range n).filter fun i => decide (i ∉ vs)
def okW (n : Nat) (vs : List Nat) (ss : List Sl) : Bool := decide (ss.length = n) && vs.all fun v => match ss[v]? with
  | some .un => true
  | some (.fz _) => true
  | _ => false
def compD (g : FG) (ft : FT) (fe : FE) (vs : List Nat) : List D → List D → List Sl → Ro (List D × List Sl)
  | [], acc, ss => .ok (acc, ss)
  | d :: ds, acc, ss => match g (.fz d) ss with
    | .nx s1 => (ft s1).nox.bind fun b => if b.1 = true then ((ffrz fe b.2).nox.bind fun p => match p.1 with
        | .fz e => if acc.length < sizeLine then compD g ft fe vs ds (acc ++ [e]) (wipeS p.2 vs) else .stuck
        | _ => .stuck) else compD g ft fe vs ds acc (wipeS b.2 vs)
    | _ => .stuck
def kcomp (g : FG) (ft : FT) (fe : FE) (n : Nat) (vs : List Nat) (ds : List D) (ss : List Sl) : Ro (Sl × List Sl) :=
  if okW n vs ss = true then (compD g ft fe vs ds [] (wipeS ss vs)).bind fun q => .ok (.ow .o1 (.lst q.1), restS ss q.2 vs) else .stuck
def fComp (fi : FI) (g : FG) (ft : FT) (fe : FE) (n : Nat) (vs : List Nat) : FE := fun ss => (fi ss).bind fun p => kcomp g ft fe n vs p.1 p.2
section
variable {K : PySem.W.Frag} {E : EW} {E0 : XK} {kp : List Nat} {σ σ1 : L2.St} {Z H Z' H' Z1 H1 : Hp} {F F1 : List Addr} {es ts us es1 pre : List Ent} {v : V} {Q : VK}
theorem Sat.more {e : Ent} (s : Sat K Z H es ts) (ok : EntOk K Z H es e) (hf : e.fp = []) : Sat K Z H es (ts ++ [e]) ∧ fpsOf (es ++ (ts ++ [e])) = fpsOf (es ++ ts) := by
  have ef : fpsOf (es ++ (ts ++ [e])) = fpsOf (es ++ ts) := by simp [fpsOf, List.flatMap_append, hf]
  refine ⟨⟨s.sub, by rw [ef]; exact s.nd, fun a m => s.zf a (by rw [← ef]; exact m), fun u m => ?_⟩, ef⟩
  rw [← List.append_assoc] at m
  rcases List.mem_append.mp m with q | q
  · exact s.ok u q
  · obtain rfl := List.mem_singleton.mp q; exact ok
theorem Sat.wipe {ts : List Ent} (hts : NoAl ts) : ∀ {vs : List Nat} {es : List Ent}, Sat K Z H es ts → (∀ v ∈ vs, v < es.length) → ∃ es', Sat K Z H es' ts ∧ (∀ a ∈ fpsOf (es' ++ ts), a ∈ fpsOf (es ++ ts)) ∧ vsOf es' = L2.wipe (vsOf es) vs ∧ ssOf es' = wipeS (ssOf es) vs ∧ es'.length = es.length
  | [], es, s, _ => ⟨es, s, fun _ m => m, rfl, rfl, rfl⟩
  | v :: vs, es, s, h => by
    obtain ⟨es1, s1, h1, h2, h3, h4⟩ := Sat.wipe hts (vs := vs) s fun w m => h w (List.mem_cons_of_mem _ m)
    obtain ⟨s2, ef⟩ := s1.more (e := ⟨none, .un, []⟩) rfl rfl
    have hv : v < es1.length := by rw [h4]; exact h v List.mem_cons_self
    obtain ⟨es2, g1, g2, g3, g4⟩ := s2.assign hv (fun e m j q => absurd q (hts e m j))
    refine ⟨es2, g1, fun a m => h1 a (by rw [← ef]; exact g2 a m), by rw [g3, h2]; rfl, by rw [g4, h3]; rfl, ?_⟩
    have : (vsOf es2).length = (vsOf es1).length := by rw [g3, List.length_set]
    simp only [List.length_map] at this
    omega
/-- the comprehension's names are given back what they held -/
theorem Sat.rest {ts e0 : List Ent} (hts : NoAl ts) : ∀ {vs : List Nat} {es : List Ent}, Sat K Z H es ts → (∀ v ∈ vs, v < es.length) → (∀ v ∈ vs, ∃ u, e0[v]? = some u ∧ u.fp = [] ∧ EntOk K Z H [] u) → ∃ es', Sat K Z H es' ts ∧ (∀ a ∈ fpsOf (es' ++ ts), a ∈ fpsOf (es ++ ts)) ∧
    (∀ i, (vsOf es')[i]? = if i ∈ vs then (vsOf e0)[i]? else (vsOf es)[i]?) ∧ ssOf es' = restS (ssOf e0) (ssOf es) vs ∧ es'.length = es.length
  | [], es, s, _, _ => ⟨es, s, fun _ m => m, fun i => by simp, rfl, rfl⟩
  | v :: vs, es, s, h, hu => by
    obtain ⟨es1, s1, h1, h2, h3, h4⟩ := Sat.rest hts (vs := vs) s (fun w m => h w (List.mem_cons_of_mem _ m)) fun w m => hu w (List.mem_cons_of_mem _ m)
    obtain ⟨u, u1, u2, u3⟩ := hu v List.mem_cons_self
    obtain ⟨uv, us0, uf⟩ := u
    dsimp only at u2
    subst u2
    obtain ⟨s2, ef⟩ := s1.more (e := ⟨uv, us0, []⟩) u3.any rfl
    have hv : v < es1.length := by rw [h4]; exact h v List.mem_cons_self
    obtain ⟨es2, g1, g2, g3, g4⟩ := s2.assign hv (fun e m j q => absurd q (hts e m j))
    refine ⟨es2, g1, fun a m => h1 a (by rw [← ef]; exact g2 a m), fun i => ?_, ?_, ?_⟩
    · rw [g3, List.getElem?_set]
      by_cases q : v = i
      · subst q
        rw [if_pos rfl, if_pos (by simpa using hv), if_pos List.mem_cons_self, List.getElem?_map, u1]; rfl
      · rw [if_neg q, h2]
        have : (i ∈ v :: vs) ↔ i ∈ vs := by simp [Ne.symm q]
        simp only [this]
    · rw [g4, h3]
      have : (ssOf e0)[v]? = some us0 := by rw [List.getElem?_map, u1]; rfl
      show _ = setS v (((ssOf e0)[v]?).getD .un) _
      rw [this]; rfl
    · have : (vsOf es2).length = (vsOf es1).length := by rw [g3, List.length_set]
      simp only [List.length_map] at this
      omega
theorem wipe_in {σ : L2.St} {i : Nat} : ∀ {vs : List Nat}, i ∈ vs → i < σ.length → (L2.wipe σ vs)[i]? = some none
  | [], h, _ => by cases h
  | v :: vs, h, hl => by
    show ((L2.wipe σ vs).set v none)[i]? = _
    rw [List.getElem?_set]
    by_cases q : v = i
    · rw [if_pos q, if_pos (by rw [q, wipe_length]; exact hl)]
    · rw [if_neg q]
      exact wipe_in ((List.mem_cons.mp h).resolve_left (Ne.symm q)) hl
theorem wipe_kept {n : Nat} {vs : List Nat} {σ σ' : L2.St} (hn : σ.length = n) (h : Kept (kpC n vs) σ σ') : L2.wipe σ' vs = L2.wipe σ vs := by
  apply List.ext_getElem?
  intro i
  by_cases hi : i < n
  · by_cases m : i ∈ vs
    · rw [wipe_in m (by rw [h.1, hn]; exact hi), wipe_in m (by rw [hn]; exact hi)]
    · rw [wipe_out m, wipe_out m]
      exact h.2 i (List.mem_filter.mpr ⟨List.mem_range.mpr hi, by simpa using m⟩)
  · rw [List.getElem?_eq_none (by rw [wipe_length, h.1, hn]; omega), List.getElem?_eq_none (by rw [wipe_length, hn]; omega)]
theorem wipe_wipe {σ : L2.St} {vs : List Nat} : L2.wipe (L2.wipe σ vs) vs = L2.wipe σ vs := by
  apply List.ext_getElem?
  intro i
  by_cases hi : i < σ.length
  · by_cases m : i ∈ vs
    · rw [wipe_in m (by rw [wipe_length]; exact hi), wipe_in m hi]
    · rw [wipe_out m]
  · rw [List.getElem?_eq_none (by rw [wipe_length, wipe_length]; omega), List.getElem?_eq_none (by rw [wipe_length]; omega)]
theorem RI.next {β : Type} {f : FI} {n : List D × List Sl → Ro (β × List Sl)} {rs : β → List Sl} {P : β → Hp → Hp → List Ent → List Ent → Prop} {R : It → Hp → Prop} (s : Sat K Z1 H1 es1 []) (hv : vsOf es1 = σ) (k : Kon K E σ Z1 H1 (fpsOf es1) ((f (ssOf es1)).bind n) rs P)
    (h : ∀ ds Z2 H2 es2 J L, LkIn L Z2 H2 → Walk K Z2 L J ds → Sat K Z2 H2 es2 [] → vsOf es2 = σ → Kon K E σ Z2 H2 (fpsOf es2) (n (ds, ssOf es2)) rs P → R J H2) : RI K E f σ H1 R := by
  refine ⟨Z1, es1, s, hv, kon_next (ts := []) s hv (by rw [List.append_nil]; exact k) fun a Z2 H2 es2 us e1 s2 e2 k2 J L lk w => ?_⟩
  obtain rfl : us = [] := by simpa using e1
  refine h a Z2 H2 es2 J L lk w s2 e2 ?_
  simpa only [List.append_nil] using k2
/-- what is to come of a comprehension, its list on the way -/
def CQ (K : PySem.W.Frag) (σ : L2.St) (Z H : Hp) (F : List Addr) (Da : Addr) (m : Ro (List D × List Sl)) (Q : VK) : Prop := match m with
  | .ok (acc, ss') => ∀ Z' H' es', Step Z H F Z' H' (fpsOf (es' ++ [⟨some (.ref Da), .ow .o1 (.lst acc), [Da]⟩])) → Sat K Z' H' es' [⟨some (.ref Da), .ow .o1 (.lst acc), [Da]⟩] → vsOf es' = σ → ssOf es' = ss' → Q (.ref Da) H'
  | _ => False
theorem CQ.from {m : Ro (List D × List Sl)} {Da : Addr} (st : Step Z H F Z1 H1 F1) (k : CQ K σ Z H F Da m Q) : CQ K σ Z1 H1 F1 Da m Q := by
  unfold CQ at k ⊢
  split at k
  · exact fun Z' H' es' st' => k Z' H' es' (st.tr st')
  · exact k
/-- an inner reading from CQ -/
theorem CQ.next {α : Type} {m : Ro (α × List Sl)} {n : α × List Sl → Ro (List D × List Sl)} {rm : α → List Sl} {Qm : α → Hp → Hp → List Ent → List Ent → Prop} {Da : Addr} {σ2 : L2.St} (s : Sat K Z1 H1 es1 ts) (hv : vsOf es1 = σ2) (k : CQ K σ Z1 H1 (fpsOf (es1 ++ ts)) Da (m.nox.bind n) Q)
    (h : ∀ a Z2 H2 es2 us, ssOf us = rm a → Sat K Z2 H2 es2 (ts ++ us) → vsOf es2 = σ2 → Le Z1 Z2 → (∀ L, LkIn L Z1 H1 → LkIn L Z2 H2) → CQ K σ Z2 H2 (fpsOf (es2 ++ (ts ++ us))) Da (n (a, ssOf es2)) Q → Qm a Z2 H2 es2 us) : Kon K noE σ2 Z1 H1 (fpsOf es1) m rm Qm := by
  cases m with
  | ok p =>
    obtain ⟨a, ss'⟩ := p
    intro Z2 H2 es2 us st s2 h1 h2 h3
    obtain ⟨s3, st3⟩ := s.frame st s2 (h1.trans hv.symm)
    refine h a Z2 H2 es2 us h3 s3 h1 st.z (fun L l => l.step st fun c m => s.zf c (fps_app.mpr (.inl m))) ?_
    subst h2
    exact CQ.from st3 k
  | exc c fs ss' => exact k.elim
  | stuck => exact k.elim
theorem compD_nox {g : FG} {ft : FT} {fe : FE} {vs : List Nat} : ∀ {ds acc : List D} {ss : List Sl} {c fs s'}, compD g ft fe vs ds acc ss ≠ .exc c fs s'
  | [], _, _, _, _, _ => fun h => by cases h
  | d :: ds, acc, ss, c, fs, s' => fun h => by
    unfold compD at h
    cases hg : g (.fz d) ss with
    | nx s1 =>
      rw [hg] at h
      dsimp only at h
      cases hb : ft s1 with
      | stuck => rw [hb] at h; cases h
      | exc _ _ _ => rw [hb] at h; cases h
      | ok b =>
        rw [hb] at h
        change (if b.1 = true then _ else _) = _ at h
        split at h
        · cases hp : ffrz fe b.2 with
          | stuck => rw [hp] at h; cases h
          | exc _ _ _ => rw [hp] at h; cases h
          | ok p =>
            rw [hp] at h
            obtain ⟨r, s2⟩ := p
            cases r with
            | fz e =>
              change (if acc.length < sizeLine then _ else _) = _ at h
              split at h
              · exact compD_nox h
              · cases h
            | un => cases h
            | ow _ _ => cases h
            | al _ => cases h
        · exact compD_nox h
    | _ => rw [hg] at h; cases h
/-- what is on the way, and is no name's, stands whatever becomes of the names -/
theorem Sat.frameN {Z2 H2 : Hp} {es2 : List Ent} (hn : NoAl ts) (s : Sat K Z1 H1 es1 ts) (st : Step Z1 H1 (fpsOf es1) Z2 H2 (fpsOf (es2 ++ us))) (s2 : Sat K Z2 H2 es2 us) :
    Sat K Z2 H2 es2 (ts ++ us) ∧ Step Z1 H1 (fpsOf (es1 ++ ts)) Z2 H2 (fpsOf (es2 ++ (ts ++ us))) := by
  have al : ∀ a ∈ fpsOf ts, ∃ o, H1 a = some o := fun a m => s.alive a (fps_app.mpr (.inr m))
  have nd := s.nd
  simp only [fpsOf, List.flatMap_append, List.nodup_append] at nd
  have nf : ∀ a ∈ fpsOf ts, a ∉ fpsOf es1 := fun a m z => nd.2.2 a z a m rfl
  have n2 : ∀ a ∈ fpsOf ts, a ∉ fpsOf (es2 ++ us) := fun a m z => by
    rcases st.fps a z with q | q
    · exact nf a m q
    · obtain ⟨o, e⟩ := al a m; rw [e] at q; cases q
  refine ⟨⟨s2.sub, ?_, fun a m => ?_, fun e m => ?_⟩, ?_⟩
  · have h2 := s2.nd
    simp only [fpsOf, List.flatMap_append, List.nodup_append] at h2 ⊢
    refine ⟨h2.1, ⟨nd.2.1, h2.2.1, fun a m b mb z => ?_⟩, fun a m b mb z => ?_⟩
    · subst z; exact n2 a m (fps_app.mpr (.inr mb))
    · subst z
      rcases List.mem_append.mp mb with q | q
      · exact n2 a q (fps_app.mpr (.inl m))
      · exact h2.2.2 a m a q rfl
  · rcases fps_app.mp m with q | q
    · exact s2.zf a (fps_app.mpr (.inl q))
    · rcases fps_app.mp q with q | q
      · cases e : Z2 a with
        | none => rfl
        | some o =>
          rcases st.zn a o e with z | z | z
          · rw [s.zf a (fps_app.mpr (.inr q))] at z; cases z
          · exact (nf a q z).elim
          · obtain ⟨o', e'⟩ := al a q; rw [e'] at z; cases z
      · exact s2.zf a (fps_app.mpr (.inr q))
  · rcases List.mem_append.mp m with q | q
    · exact s2.ok e (List.mem_append_left _ q)
    · rcases List.mem_append.mp q with q | q
      · exact ((s.ok e (List.mem_append_right _ q)).noAl (us := es1) (hn e q)).frame st.z (fun a ma o e' => st.own (s.zf a (fps_app.mpr (.inr (mem_fps.mpr ⟨e, q, ma⟩)))) e' (nf a (mem_fps.mpr ⟨e, q, ma⟩))) rfl |>.noAl (hn e q)
      · exact s2.ok e (List.mem_append_right _ q)
  · refine ⟨fun a o e n => st.keep a o e fun z => n (fps_app.mpr (.inl z)), fun a m => ?_, st.z, fun a o e => ?_⟩
    · rcases fps_app.mp m with q | q
      · exact (st.fps a (fps_app.mpr (.inl q))).imp (fun z => fps_app.mpr (.inl z)) id
      · rcases fps_app.mp q with q | q
        · exact .inl (fps_app.mpr (.inr q))
        · exact (st.fps a (fps_app.mpr (.inr q))).imp (fun z => fps_app.mpr (.inl z)) id
    · exact (st.zn a o e).imp id fun z => z.imp (fun z => fps_app.mpr (.inl z)) id
theorem re_comp {fi : FI} {g : FG} {ft : FT} {fe : FE} {n : Nat} {vs : List Nat} (ho : ∀ r ss, OnOnly (g r ss)) (h : RE K E (fComp fi g ft fe n vs) σ H Q) : tLc (RI K E fi) (RG K noE (kpC n vs) g) (RT K noE ft) (RE K noE fe) vs σ H Q := by
  obtain ⟨Z, es, s, hv, k⟩ := h
  refine RI.next (n := fun p => kcomp g ft fe n vs p.1 p.2) s hv k fun ds Z2 H2 es2 J L lk w s2 hv2 k2 => ?_
  intro Da nD
  dsimp only at k2
  unfold kcomp at k2
  by_cases hw : okW n vs (ssOf es2) = true
  · rw [if_pos hw] at k2
    unfold okW at hw
    rw [Bool.and_eq_true, decide_eq_true_eq, List.all_eq_true] at hw
    obtain ⟨hlen, hall⟩ := hw
    have hlen2 : es2.length = n := by simpa using hlen
    have hσ : σ.length = n := by rw [← hv2]; simpa using hlen
    have hvs : ∀ v ∈ vs, ∃ u, es2[v]? = some u ∧ u.fp = [] ∧ EntOk K Z2 H2 [] u := fun v m => by
      have := hall v m
      cases q : es2[v]? with
      | none => rw [show (ssOf es2)[v]? = none by rw [List.getElem?_map, q]; rfl] at this; cases this
      | some u =>
        rw [show (ssOf es2)[v]? = some u.s by rw [List.getElem?_map, q]; rfl] at this
        have ok := s2.ok u (List.mem_append_left _ (List.mem_of_getElem? q))
        cases hs : u.s with
        | un => unfold EntOk at ok; rw [hs] at ok; exact ⟨u, rfl, ok, by unfold EntOk; rw [hs]; exact ok⟩
        | fz d =>
          unfold EntOk at ok; rw [hs] at ok
          obtain ⟨x, q1, q2, q3⟩ := ok
          exact ⟨u, rfl, q3, by unfold EntOk; rw [hs]; exact ⟨x, q1, q2, q3⟩⟩
        | ow t d => rw [hs] at this; cases this
        | al j => rw [hs] at this; cases this
    have hlt : ∀ v ∈ vs, v < es2.length := fun v m => by
      obtain ⟨u, q, _⟩ := hvs v m
      exact (List.getElem?_eq_some_iff.mp q).1
    -- the new list
    obtain ⟨s3, st3⟩ := s2.new (New.o1 (o := .lst []) (d := .lst []) s2.sub nD rfl rfl .nil)
    simp only [List.nil_append, List.append_nil] at s3 st3
    have nal : ∀ acc : List D, NoAl [(⟨some (.ref Da), .ow .o1 (.lst acc), [Da]⟩ : Ent)] := fun acc e m j z => by
      obtain rfl := List.mem_singleton.mp m
      cases z
    obtain ⟨es3, s4, sb4, hv4, hs4, hl4⟩ := Sat.wipe (vs := vs) (nal []) s3 hlt
    -- the end, from the comprehension's own states
    have kq : CQ K (L2.wipe σ vs) Z2 (upd H2 Da (.lst [])) (fpsOf (es3 ++ [⟨some (.ref Da), .ow .o1 (.lst []), [Da]⟩])) Da (compD g ft fe vs ds [] (ssOf es3)) Q := by
      rw [hs4]
      cases hc : compD g ft fe vs ds [] (wipeS (ssOf es2) vs) with
      | stuck => rw [hc] at k2; exact k2.elim
      | exc c fs ss =>
        exact absurd hc compD_nox
      | ok p =>
        obtain ⟨acc, sE⟩ := p
        rw [hc] at k2
        intro Z' H' es' st s' e1 e2
        have le : Le Z2 Z' := st.z
        have hl' : es'.length = n := by
          have := congrArg List.length e1
          rw [wipe_length] at this
          simp only [List.length_map] at this
          omega
        obtain ⟨es4, g1, g2, g3, g4, g5⟩ := Sat.rest (e0 := es2) (vs := vs) (nal acc) s' (fun v m => by rw [hl', ← hlen2]; exact hlt v m) (fun v m => by
          obtain ⟨u, q1, q2, q3⟩ := hvs v m
          refine ⟨u, q1, q2, ?_⟩
          exact q3.frame le (fun a ma => by rw [q2] at ma; cases ma) rfl)
        refine k2 Z' H' es4 [⟨some (.ref Da), .ow .o1 (.lst acc), [Da]⟩] ?_ g1 ?_ (by rw [g4, e2]) rfl (.ref Da) rfl
        · refine ((st3.less sb4).tr st).less g2 |>.wide ?_ |>.less fun _ m => m
          exact fun c m => m
        · apply List.ext_getElem?
          intro i
          rw [g3]
          by_cases m : i ∈ vs
          · rw [if_pos m, hv2]
          · rw [if_neg m, e1, wipe_out m]
    clear k2
    refine ⟨fun i m H => m = ds.length - i ∧ i ≤ ds.length ∧ ∃ Z es acc, Le Z2 Z ∧ LkIn L Z H ∧ Sat K Z H es [⟨some (.ref Da), .ow .o1 (.lst acc), [Da]⟩] ∧ vsOf es = L2.wipe σ vs ∧
      CQ K (L2.wipe σ vs) Z H (fpsOf (es ++ [⟨some (.ref Da), .ow .o1 (.lst acc), [Da]⟩])) Da (compD g ft fe vs (ds.drop i) acc (ssOf es)) Q, ⟨ds.length, by simp, Nat.zero_le _, Z2, es3, [], Le.refl _, lk.step st3 (fun a m => s2.zf a (by simpa using m)), s4, by rw [hv4, hv2], kq⟩, ?_⟩
    rintro i m H ⟨rfl, hi, Z, es, acc, le, lkk, s, hv, k⟩
    by_cases hlt2 : i < ds.length
    · have e0 : ds.drop i = ds[i] :: ds.drop (i + 1) := List.drop_eq_getElem_cons hlt2
      rw [e0] at k
      refine .inr ⟨w.go i Z H le s.sub lkk hlt2, fun H' => ∃ Z es acc, Le Z2 Z ∧ LkIn L Z H' ∧ Sat K Z H' es [⟨some (.ref Da), .ow .o1 (.lst acc), [Da]⟩] ∧ vsOf es = L2.wipe σ vs ∧
        CQ K (L2.wipe σ vs) Z H' (fpsOf (es ++ [⟨some (.ref Da), .ow .o1 (.lst acc), [Da]⟩])) Da (compD g ft fe vs (ds.drop (i + 1)) acc (ssOf es)) Q, fun H' q => ⟨ds.length - (i + 1), by omega, rfl, hlt2, q⟩, fun x H' y => ?_⟩
      obtain ⟨Z', nw⟩ := w.yld i Z H x H' ds[i] le s.sub lkk (List.getElem?_eq_getElem hlt2) y
      obtain ⟨s', st'⟩ := s.new nw
      unfold compD at k
      have k' := CQ.from st' k
      have s'' : Sat K Z' H' es [⟨some x, .fz ds[i], []⟩] := Sat.dropL s'
      refine ⟨Z', es, .fz ds[i], [], s'', hv, ?_⟩
      have hσ2 : (L2.wipe σ vs).length = n := by rw [wipe_length]; exact hσ
      cases hg : g (.fz ds[i]) (ssOf es) with
      | exc c fs ss1 => rw [hg] at k'; exact k'.elim
      | stuck => rw [hg] at k'; exact k'.elim
      | rt r ss1 => have := ho (.fz ds[i]) (ssOf es); rw [hg] at this; exact this.elim
      | bk ss1 => have := ho (.fz ds[i]) (ssOf es); rw [hg] at this; exact this.elim
      | ct ss1 => have := ho (.fz ds[i]) (ssOf es); rw [hg] at this; exact this.elim
      | nx ss1 =>
        rw [hg] at k'
        intro Z3 H3 es3' st3' s3' kd3 e3
        have sD : Sat K Z' H' es [⟨some (.ref Da), .ow .o1 (.lst acc), [Da]⟩] := Sat.drop s'
        have efx : fpsOf (es ++ [(⟨some x, .fz ds[i], []⟩ : Ent)]) = fpsOf es := by simp [fpsOf, List.flatMap_append]
        rw [efx] at st3'
        obtain ⟨s5, st5⟩ := Sat.frameN (us := []) (nal acc) sD (by rw [List.append_nil]; exact st3') s3'
        simp only [List.append_nil] at s5 st5
        refine ⟨by rw [wipe_kept hσ2 kd3, wipe_wipe], ?_⟩
        have hl3 : es3'.length = n := by have := kd3.1; rw [hσ2] at this; simpa using this
        have k3 : CQ K (L2.wipe σ vs) Z3 H3 (fpsOf (es3' ++ [⟨some (.ref Da), .ow .o1 (.lst acc), [Da]⟩])) Da ((ft (ssOf es3')).nox.bind fun b => if b.1 = true then ((ffrz fe b.2).nox.bind fun p => match p.1 with
            | .fz e => if acc.length < sizeLine then compD g ft fe vs (ds.drop (i + 1)) (acc ++ [e]) (wipeS p.2 vs) else .stuck
            | _ => .stuck) else compD g ft fe vs (ds.drop (i + 1)) acc (wipeS b.2 vs)) Q := by
          rw [e3]
          refine CQ.from (st5.wide fun c m => ?_) k'
          simp only [fpsOf, List.flatMap_append, List.flatMap_cons, List.flatMap_nil, List.append_nil] at m ⊢
          simpa using m
        have lk3 : LkIn L Z3 H3 := (lkk.step nw.step (fun a m => by cases m)).step st3' (fun a m => sD.zf a (fps_app.mpr (.inl m)))
        -- back to a turn's beginning
        have again : ∀ (Z4 H4 : Hp) (es4 : List Ent) (acc' : List D), Le Z2 Z4 → LkIn L Z4 H4 → Sat K Z4 H4 es4 [⟨some (.ref Da), .ow .o1 (.lst acc'), [Da]⟩] → vsOf es4 = vsOf es3' →
            CQ K (L2.wipe σ vs) Z4 H4 (fpsOf (es4 ++ [⟨some (.ref Da), .ow .o1 (.lst acc'), [Da]⟩])) Da (compD g ft fe vs (ds.drop (i + 1)) acc' (wipeS (ssOf es4) vs)) Q →
            ∃ Z es acc, Le Z2 Z ∧ LkIn L Z H4 ∧ Sat K Z H4 es [⟨some (.ref Da), .ow .o1 (.lst acc), [Da]⟩] ∧ vsOf es = L2.wipe σ vs ∧ CQ K (L2.wipe σ vs) Z H4 (fpsOf (es ++ [⟨some (.ref Da), .ow .o1 (.lst acc), [Da]⟩])) Da (compD g ft fe vs (ds.drop (i + 1)) acc (ssOf es)) Q := by
          intro Z4 H4 es4 acc' le4 lk4 s4 hv4 k4
          have hl4 : es4.length = n := by
            have := congrArg List.length hv4
            simp only [List.length_map] at this
            omega
          obtain ⟨es5, q1, q2, q3, q4, q5⟩ := Sat.wipe (vs := vs) (nal acc') s4 (fun v m => by rw [hl4, ← hlen2]; exact hlt v m)
          refine ⟨Z4, es5, acc', le4, lk4, q1, by rw [q3, hv4, wipe_kept hσ2 kd3, wipe_wipe], ?_⟩
          rw [q4]
          exact CQ.from (Step.refl q2) k4
        refine ⟨Z3, es3', s3', rfl, CQ.next (ts := [⟨some (.ref Da), .ow .o1 (.lst acc), [Da]⟩]) s5 rfl k3 fun b Z4 H4 es4 us e1 s6 hv6 le6 lk6 k6 => ?_⟩
        obtain rfl : us = [] := by simpa using e1
        rw [List.append_nil] at s6 k6
        have le4 : Le Z2 Z4 := le.tr (nw.step.z.tr (st3'.z.tr le6))
        cases b with
        | false =>
          rw [if_neg (by decide)]
          exact again Z4 H4 es4 acc le4 (lk6 L lk3) s6 hv6 k6
        | true =>
          rw [if_pos rfl]
          refine re_frz ?_
          rw [← hv6]
          refine ⟨Z4, es4, s6.bare, rfl, CQ.next (ts := [⟨some (.ref Da), .ow .o1 (.lst acc), [Da]⟩]) s6 rfl k6 fun r Z5 H5 es5 us e1 s7 hv7 le7 lk7 k7 y e8 => ?_⟩
          obtain ⟨u, rfl⟩ : ∃ u, us = [u] := List.length_eq_one_iff.mp (by have := congrArg List.length e1; simpa using this)
          obtain ⟨uv, usl, ufp⟩ := u
          simp only [List.map_cons, List.map_nil, List.cons.injEq, and_true] at e1 e8
          subst e1 e8
          cases usl with
          | un => exact k7.elim
          | ow _ _ => exact k7.elim
          | al _ => exact k7.elim
          | fz e =>
            change CQ K _ Z5 H5 _ Da (if acc.length < sizeLine then _ else _) Q at k7
            split at k7
            · rename_i hsz
              obtain ⟨y', y1, y2, y3⟩ := s7.ok ⟨some y, .fz e, ufp⟩ (by simp)
              cases y1
              dsimp only at y3
              subst y3
              obtain ⟨d', d1, d2⟩ := s7.ok ⟨some (.ref Da), .ow .o1 (.lst acc), [Da]⟩ (by simp)
              cases d1
              rcases d2 with ⟨d2, _⟩ | ⟨a, o, kk, vs', ds', e9, h5, ov, dv, fr, _⟩
              · cases d2
              · cases e9
                cases dv
                have ho' := oview_lst ov
                subst ho'
                refine ⟨vs', h5, by rw [fr.len]; exact hsz, ?_⟩
                have s8 : Sat K Z5 H5 es5 [⟨some (.ref Da), .ow .o1 (.lst acc), [Da]⟩] := s7.drop
                have na : Da ∉ fpsOf es5 := fun m => by
                  have nd := s8.nd
                  simp only [fpsOf, List.flatMap_append, List.nodup_append] at nd
                  exact nd.2.2 Da m Da (by simp) rfl
                obtain ⟨s9, st9⟩ := s8.write (a := Da) (o := .lst (vs' ++ [y])) (d' := .lst (acc ++ [e])) (fps_app.mpr (.inr (by simp))) (Wr.refl na) (.cons (.inr ⟨rfl, rfl, rfl⟩) .nil) rfl rfl (fr.app (.cons y2 .nil))
                refine again Z5 (upd H5 Da (.lst (vs' ++ [y]))) es5 (acc ++ [e]) (le4.tr le7) ((lk7 L (lk6 L lk3)).step st9 (fun c m => s8.zf c m)) s9 (hv7.trans hv6) ?_
                refine CQ.from (st9.wide fun c m => ?_) k7
                simp only [fpsOf, List.flatMap_append, List.flatMap_cons, List.flatMap_nil, List.append_nil] at m ⊢
                simpa using m
            · exact k7.elim
    · have e : i = ds.length := by omega
      subst e
      rw [List.drop_length] at k
      exact .inl ⟨w.stop Z H le s.sub lkk, k Z H es (Step.refl fun a m => m) s hv rfl⟩
  · rw [if_neg hw] at k2
    exact k2.elim
end
end Mi
namespace Mi
open PySem PySem.Spec PyProof.Rows L2 Rt
section
variable {K : PySem.W.Frag} {E : EW} {E0 : XK} {kp : List Nat} {σ σ1 : L2.St} {Z H Z' H' Z1 H1 : Hp} {F F1 : List Addr} {es ts us es1 pre : List Ent} {v : V} {Q : VK} {De : Ends}
def kpar (i j : Nat) (rs ss : List Sl) : So := match rs with
  | [a, b] => if (∀ k, a = .al k → k ≠ j) ∧ i ≠ j then (kset j b ss).seq fun s => kset i a s else .stuck
  | _ => .stuck
def fPar2 (i j : Nat) (ft : FA) : FS := fun ss => (ft ss).so fun p => kpar i j p.1 p.2
theorem two_of {x y : Ent} {vs : List V} (h : vsOf [x, y] = vs.map some) : ∃ a b, vs = [a, b] ∧ x.v = some a ∧ y.v = some b := by
  have hl : vs.length = 2 := by have := congrArg List.length h; simpa using this.symm
  match vs, hl with
  | [a, b], _ =>
    simp only [List.map_cons, List.map_nil, List.cons.injEq, and_true] at h
    exact ⟨a, b, rfl, h.1, h.2⟩
theorem rs_par {i j : Nat} {ft : FA} (hi : i ∉ kp) (hj : j ∉ kp) (h : RS K E kp (fPar2 i j ft) De σ H) : tPar i j (RA K E ft) De σ H := by
  obtain ⟨Z, es, s, hv, k⟩ := h
  refine RA.so (ts := []) (n := fun p => kpar i j p.1 p.2) s hv (by rw [List.append_nil]; exact k) fun Z1 H1 es1 us vs e1 s1 hv1 k1 => ?_
  rw [List.nil_append] at s1 k1
  dsimp only at k1
  unfold kpar at k1
  split at k1
  · rename_i a b eab
    split at k1
    · rename_i hc
      obtain ⟨ea, eb, rfl⟩ : ∃ ea eb, us = [ea, eb] := by
        match us, eab with
        | [x, y], _ => exact ⟨x, y, rfl⟩
      simp only [List.map_cons, List.map_nil, List.cons.injEq, and_true] at eab
      obtain ⟨rfl, rfl⟩ := eab
      obtain ⟨va, vb, rfl, eA, eB⟩ := two_of e1
      refine ⟨va, vb, rfl, ?_⟩
      obtain ⟨v1, s_1, f1⟩ := ea
      obtain ⟨v2, s_2, f2⟩ := eb
      obtain rfl : v1 = some va := eA
      obtain rfl : v2 = some vb := eB
      unfold kset at k1
      by_cases hjl : j < (ssOf es1).length
      · rw [if_pos hjl] at k1
        obtain ⟨es2, s2, g1, g2, g3⟩ := Sat.assign (ts := [⟨some va, s_1, f1⟩]) (i := j) s1 (by simpa using hjl) (fun e m k' q => by
          obtain rfl := List.mem_singleton.mp m
          exact hc.1 k' q)
        change SK K E kp σ Z1 H1 _ (if i < (setS j s_2 (ssOf es1)).length then _ else _) De at k1
        rw [← g3] at k1
        by_cases hil : i < (ssOf es2).length
        · rw [if_pos hil] at k1
          obtain ⟨es3, s3, q1, q2, q3⟩ := Sat.assign (ts := []) (i := i) s2 (by simpa using hil) (by simp)
          have hk : Kept kp σ (vsOf es3) := by
            rw [q2, g2, hv1]
            exact (kept_set hj).tr (kept_set hi)
          have := k1 Z1 H1 es3 (Step.refl fun a m => g1 a (q1 a (by rw [List.append_nil]; exact m))) s3 hk q3
          rw [q2, g2, hv1, List.set_comm _ _ (Ne.symm hc.2)] at this
          exact this
        · rw [if_neg hil] at k1; exact k1.elim
      · rw [if_neg hjl] at k1; exact k1.elim
    · exact k1.elim
  · exact k1.elim
/-- what the store makes of what stood there -/
def stD (t : Tg) (d : D) (k : D) (x : D) : Option D := match d with
  | .lst xs => match k with
    | .int i => (ixN xs.length i).map fun j => .lst (xs.set j x)
    | _ => none
  | .dk kvs => (k.key?).bind fun k => if kvs.length < sizeLine then some (.dk (putD kvs k x)) else none
  | _ => none
theorem putD_rel {κ : Type} [DecidableEq κ] {Z : Hp} {gs : List (κ × V)} {kvs : List (κ × D)} {k : κ} {v : V} {d : D} (e : gs.map (·.1) = kvs.map (·.1)) (h : FReps K Z (gs.map (·.2)) (kvs.map (·.2))) (r : FRep K Z v d) :
    (putK gs k v).map (·.1) = (putD kvs k d).map (·.1) ∧ FReps K Z ((putK gs k v).map (·.2)) ((putD kvs k d).map (·.2)) := by
  have hany : (gs.any fun kv => decide (kv.1 = k)) = (kvs.any fun kv => decide (kv.1 = k)) := by
    have h1 : ∀ l : List (κ × V), (l.any fun kv => decide (kv.1 = k)) = (l.map (·.1)).any fun q => decide (q = k) := fun l => by rw [List.any_map]; rfl
    have h2 : ∀ l : List (κ × D), (l.any fun kv => decide (kv.1 = k)) = (l.map (·.1)).any fun q => decide (q = k) := fun l => by rw [List.any_map]; rfl
    rw [h1, h2, e]
  unfold putK putD
  rw [hany]
  by_cases q : (kvs.any fun kv => decide (kv.1 = k)) = true
  · rw [if_pos q, if_pos q]
    clear hany q
    induction gs generalizing kvs with
    | nil =>
      cases kvs with
      | nil => exact ⟨rfl, .nil⟩
      | cons _ _ => cases e
    | cons g gs ih =>
      cases kvs with
      | nil => cases e
      | cons kv kvs =>
        simp only [List.map_cons, List.cons.injEq] at e h
        cases h with
        | cons h1 h2 =>
          obtain ⟨i1, i2⟩ := ih e.2 h2
          have e1 := e.1
          by_cases q : kv.1 = k
          · have q' : g.1 = k := e1.trans q
            refine ⟨?_, ?_⟩
            · simp only [List.map_cons, if_pos q, if_pos q', List.cons.injEq]
              exact ⟨e1, i1⟩
            · simp only [List.map_cons, if_pos q, if_pos q']
              exact .cons r i2
          · have q' : ¬ g.1 = k := fun z => q (e1.symm.trans z)
            refine ⟨?_, ?_⟩
            · simp only [List.map_cons, if_neg q, if_neg q', List.cons.injEq]
              exact ⟨e1, i1⟩
            · simp only [List.map_cons, if_neg q, if_neg q']
              exact .cons h1 i2
  · rw [if_neg q, if_neg q, List.map_append, List.map_append, List.map_append, List.map_append, e]
    exact ⟨rfl, h.app (.cons r .nil)⟩
/-- what an owner of itself alone is -/
theorem own_node {e : Ent} {d : D} {k : Kd} {ds : List D} (ok : EntOk K Z H es e) (hs : e.s = .ow .o1 d) (hd : dview K d = some (k, ds)) : ∃ a o vs, e.v = some (.ref a) ∧ H a = some o ∧ oview o = some (k, vs) ∧ FReps K Z vs ds ∧ e.fp = [a] := by
  unfold EntOk at ok
  rw [hs] at ok
  obtain ⟨x, h1, h2⟩ := ok
  rcases h2 with ⟨h2, _⟩ | ⟨a, o, k', vs, ds', e1, h3, h4, h5, h6, h7⟩
  · cases h2 <;> cases hd
  · rw [hd] at h5; cases h5
    subst e1
    exact ⟨a, o, vs, h1, h3, h4, h6, h7⟩
/-- name i is written -/
theorem Sat.writeAt {i : Nat} {e : Ent} {a : Addr} {o : HO} {k : Kd} {vs : List V} {ds : List D} {d' : D} (s : Sat K Z H es ts) (he : es[i]? = some e) (hf : e.fp = [a]) (hv : e.v = some (.ref a)) (ho : oview o = some (k, vs)) (hd : dview K d' = some (k, ds)) (hs : FReps K Z vs ds) :
    ∃ es', Sat K Z (upd H a o) es' ts ∧ Step Z H (fpsOf (es ++ ts)) Z (upd H a o) (fpsOf (es' ++ ts)) ∧ vsOf es' = vsOf es ∧ ssOf es' = (ssOf es).set i (.ow .o1 d') := by
  have nd := s.nd
  simp only [fpsOf, List.flatMap_append, List.nodup_append] at nd
  have ma : a ∈ fpsOf es := mem_fps.mpr ⟨e, List.mem_of_getElem? he, by rw [hf]; simp⟩
  have w := Wr.set (d' := d') he hf hv nd.1
  obtain ⟨s', st⟩ := s.write (ts' := ts) (fps_app.mpr (.inl ma)) w (Wr.refl fun m => nd.2.2 a ma a m rfl) ho hd hs
  refine ⟨_, s', st, Wr.vs w, ?_⟩
  show (es.set i _).map Ent.s = _
  rw [List.map_set]
def kst (x : D) (ro ri : Sl) (ss : List Sl) : So := match ro with
  | .al i => match ss[i]? with
    | some (.ow .o1 d) => match (ri.val ss).bind fun kk => stD .o1 d kk.2 x with
      | some d' => .nx (ss.set i (.ow .o1 d'))
      | none => .stuck
    | _ => .stuck
  | _ => .stuck
/-- the target o[k]: the value is on the way already -/
def gSubF (fo fk : FE) : FG := fun r ss => match frzL [r] with
  | some [x] => (fo ss).so fun p => (fk p.2).so fun q => kst x p.1 q.1 q.2
  | _ => .stuck
theorem on_kst (x : D) (ro ri : Sl) (ss : List Sl) : OnOnly (kst x ro ri ss) := by
  unfold kst
  repeat (first | trivial | split)
theorem on_gSub (fo fk : FE) (r : Sl) (ss : List Sl) : OnOnly (gSubF fo fk r ss) := by
  unfold gSubF
  split
  · cases fo ss with
    | exc _ _ _ => trivial
    | stuck => trivial
    | ok p =>
      show OnOnly ((fk p.2).so _)
      cases fk p.2 with
      | exc _ _ _ => trivial
      | stuck => trivial
      | ok q => exact on_kst _ _ _ _
  · trivial
theorem rg_sub {fo fk : FE} {R : L2.St → Hp → Prop} (h : RG K E kp (gSubF fo fk) v σ H R) : gSub (RE K E fo) (RE K E fk) rSetU v σ H R := by
  obtain ⟨Z, es, r, fv, s, hv, k⟩ := h
  -- the value is frozen
  have key : ∀ x, frzL [r] = some [x] → SK K E kp σ Z H (fpsOf (es ++ [⟨some v, r, fv⟩])) ((fo (ssOf es)).so fun p => (fk p.2).so fun q => kst x p.1 q.1 q.2) (goOn R) → gSub (RE K E fo) (RE K E fk) rSetU v σ H R := by
    intro x hx k
    obtain ⟨Z1, s1, st1⟩ := s.freeze (Fzd.refl _) (Fzd.all _)
    have fr1 : FReps K Z1 [v] [x] := frz_reps (es := es) (us := [⟨some v, r, fv⟩]) (fun u m => s1.ok u (List.mem_append_right _ m)) hx rfl
    have frx : FRep K Z1 v x := by cases fr1 with | cons a _ => exact a
    have k1 := SK.from st1 (Kept.refl _) k
    refine RE.so (ts := [Ent.frz ⟨some v, r, fv⟩]) (n := fun p => (fk p.2).so fun q => kst x p.1 q.1 q.2) s1 hv k1 fun ro Z2 H2 es2 vo f2 s2 hv2 k2' => ?_
    refine RE.so (n := fun q => kst x ro q.1 q.2) s2 hv2 k2' fun ri Z3 H3 es3 vi f3 s3 hv3 k3' => ?_
    dsimp only at k3'
    unfold kst at k3'
    cases ro with
    | un => exact k3'.elim
    | fz _ => exact k3'.elim
    | ow _ _ => exact k3'.elim
    | al i =>
      dsimp only at k3'
      -- the owner
      have okO := s3.ok ⟨some vo, .al i, f2⟩ (by simp)
      obtain ⟨_, u, y, y1, y2, y3⟩ := okO
      cases y3
      rw [show (ssOf es3)[i]? = some u.s by rw [List.getElem?_map, y1]; rfl] at k3'
      have frx3 : FRep K Z3 v x := by
        have ok := s3.ok (Ent.frz ⟨some v, r, fv⟩) (by simp)
        cases r with
        | un => cases hx
        | al _ => cases hx
        | fz d =>
          cases hx
          obtain ⟨z, z1, z2, _⟩ := ok
          cases z1; exact z2
        | ow t d =>
          cases hx
          obtain ⟨z, z1, z2, _⟩ := ok
          cases z1; exact z2
      split at k3'
      · rename_i d hu
        have hu' : u.s = .ow .o1 d := by simpa using hu
        split at k3'
        · rename_i d' hd'
          obtain ⟨⟨tk, kk⟩, k4, k5⟩ := Option.bind_eq_some_iff.mp hd'
          obtain ⟨fk', rpk, _⟩ := s3.val (e := ⟨some vi, ri, f3⟩) (by simp) rfl k4
          have oku := s3.ok u (List.mem_append_left _ (List.mem_of_getElem? y1))
          unfold stD at k5
          split at k5
          · rename_i xs
            split at k5
            · rename_i j ej
              rw [show kk = D.int j from ej] at rpk
              obtain ⟨jj, j1, j2⟩ := Option.map_eq_some_iff.mp k5
              cases j2
              obtain ⟨a, o, vs, o1, o2, o3, o4, o5⟩ := own_node oku hu' (d := .lst xs) rfl
              have := oview_lst o3; subst this
              rw [y2] at o1; cases o1
              refine .inl ⟨a, vs, j, jj, rfl, rep_int s3.sub rpk, o2, by rw [o4.len]; exact j1, ?_⟩
              obtain ⟨es4, s4, st4, v4, e4⟩ := s3.writeAt (o := .lst (vs.set jj v)) (d' := .lst (xs.set jj x)) y1 o5 y2 rfl rfl (o4.set frx3 jj)
              have := k3' Z3 _ es4 (st4.less fun c m => fps_app.mpr (.inl m)) s4.bare (by rw [v4, hv3]; exact Kept.refl _) e4
              rw [v4, hv3] at this
              exact this
            · cases k5
          · rename_i kvs
            obtain ⟨q, q1, q2⟩ := Option.bind_eq_some_iff.mp k5
            split at q2
            · rename_i hl
              cases q2
              obtain ⟨a, o, vs, o1, o2, o3, o4, o5⟩ := own_node oku hu' (d := .dk kvs) rfl
              obtain ⟨gs, rfl, g1, g2⟩ := oview_dk o3
              rw [y2] at o1; cases o1
              have hkv := kV_of s3.sub rpk q1
              subst g2
              obtain ⟨p1, p2⟩ := putD_rel (k := q) g1 o4 frx3
              have hlen : gs.length = kvs.length := by have := congrArg List.length g1; simpa using this
              refine .inr ⟨a, _, rfl, by rw [hkv]; exact DPut.k o2 (by rw [hlen]; exact hl), ?_⟩
              obtain ⟨es4, s4, st4, v4, e4⟩ := s3.writeAt (o := .dK (putK gs q v)) (d' := .dk (putD kvs q x)) (k := .dk ((putD kvs q x).map (·.1))) y1 o5 y2 (by show some (Kd.dk _, _) = _; rw [p1]) rfl p2
              have := k3' Z3 _ es4 (st4.less fun c m => fps_app.mpr (.inl m)) s4.bare (by rw [v4, hv3]; exact Kept.refl _) e4
              rw [v4, hv3] at this
              exact this
            · cases q2
          · cases k5
        · exact k3'.elim
      · exact k3'.elim
  unfold gSubF at k
  cases r with
  | un => exact k.elim
  | al _ => exact k.elim
  | fz x => exact key x rfl k
  | ow t x => exact key x rfl k
end
end Mi
namespace Mi
open PySem PySem.Spec PyProof.Rows L2 Rt
section
variable {K : PySem.W.Frag} {E : EW} {E0 : XK} {kp : List Nat} {σ σ1 : L2.St} {Z H Z' H' Z1 H1 : Hp} {F F1 : List Addr} {es ts us es1 pre : List Ent} {v : V} {Q : VK} {De : Ends}
def pairsF : List (FE × FE) → FA
  | [], ss => .ok ([], ss)
  | p :: r, ss => (p.1 ss).bind fun a => (p.2 a.2).bind fun b => (pairsF r b.2).bind fun q => .ok (a.1 :: b.1 :: q.1, q.2)
def kvsOf : List D → Option (List (Key × D))
  | [] => some []
  | k :: d :: r => (k.key?).bind fun k => (kvsOf r).bind fun kvs => some ((k, d) :: kvs)
  | _ => none
def kdispD (rs ss : List Sl) : Ro (Sl × List Sl) := match (frzL rs).bind kvsOf with
  | some kvs => if kvs.length ≤ 15 ∧ (kvs.map (·.1)).Nodup then .ok (.ow .o1 (.dk kvs), ss) else .stuck
  | none => .stuck
def fDisp (ps : List (FE × FE)) : FE := fun ss => (pairsF ps ss).bind fun p => kdispD p.1 p.2
def flatP : List (V × V) → List V
  | [] => []
  | p :: r => p.1 :: p.2 :: flatP r
theorem tp_ok {β : Type} {rs : β → List Sl} {P : β → Hp → Hp → List Ent → List Ent → Prop} {n : List Sl × List Sl → Ro (β × List Sl)} : ∀ {ps : List (FE × FE)} {Z H : Hp} {es ts : List Ent} {S : List (V × V) → Hp → Prop}, Sat K Z H es ts → vsOf es = σ →
    Kon K E σ Z H (fpsOf (es ++ ts)) ((pairsF ps (ssOf es)).bind n) rs P →
    (∀ Z2 H2 es2 us vs, vsOf us = (flatP vs).map some → Sat K Z2 H2 es2 (ts ++ us) → vsOf es2 = σ → Kon K E σ Z2 H2 (fpsOf (es2 ++ (ts ++ us))) (n (ssOf us, ssOf es2)) rs P → S vs H2) →
    tPairs (ps.map fun p => (RE K E p.1, RE K E p.2)) σ H S
  | [], Z, H, es, ts, S, s, hv, k, h => h Z H es [] [] rfl (by simpa using s) hv (by rw [List.append_nil]; exact k)
  | p :: r, Z, H, es, ts, S, s, hv, k, h => by
    have k' : Kon K E σ Z H (fpsOf (es ++ ts)) ((p.1 (ssOf es)).bind fun a => (p.2 a.2).bind fun b => (pairsF r b.2).bind fun q => n (a.1 :: b.1 :: q.1, q.2)) rs P := by
      have : (pairsF (p :: r) (ssOf es)).bind n = (p.1 (ssOf es)).bind fun a => (p.2 a.2).bind fun b => (pairsF r b.2).bind fun q => n (a.1 :: b.1 :: q.1, q.2) := by
        show ((p.1 (ssOf es)).bind fun a => (p.2 a.2).bind fun b => (pairsF r b.2).bind fun q => .ok (a.1 :: b.1 :: q.1, q.2)).bind n = _
        cases p.1 (ssOf es) with
        | ok a =>
          show ((p.2 a.2).bind fun b => (pairsF r b.2).bind fun q => .ok (a.1 :: b.1 :: q.1, q.2)).bind n = (p.2 a.2).bind fun b => (pairsF r b.2).bind fun q => n (a.1 :: b.1 :: q.1, q.2)
          cases p.2 a.2 with
          | ok b =>
            show ((pairsF r b.2).bind fun q => .ok (a.1 :: b.1 :: q.1, q.2)).bind n = (pairsF r b.2).bind fun q => n (a.1 :: b.1 :: q.1, q.2)
            cases pairsF r b.2 <;> rfl
          | _ => rfl
        | _ => rfl
      rw [← this]; exact k
    refine RE.next (n := fun a => (p.2 a.2).bind fun b => (pairsF r b.2).bind fun q => n (a.1 :: b.1 :: q.1, q.2)) s hv k' fun a Z1 H1 es1 x fx s1 hv1 k1 => ?_
    refine RE.next (n := fun b => (pairsF r b.2).bind fun q => n (a :: b.1 :: q.1, q.2)) s1 hv1 k1 fun b Z2 H2 es2 y fy s2 hv2 k2 => ?_
    refine tp_ok (ps := r) (n := fun q => n (a :: b :: q.1, q.2)) s2 hv2 k2 fun Z3 H3 es3 us vs e3 s3 hv3 k3 => ?_
    refine h Z3 H3 es3 (⟨some x, a, fx⟩ :: ⟨some y, b, fy⟩ :: us) ((x, y) :: vs) ?_ (by simpa using s3) hv3 (by simpa using k3)
    show some x :: some y :: vsOf us = _
    rw [e3]; rfl
theorem kvs_rel : ∀ {vs : List (V × V)} {ds : List D} {kvs : List (Key × D)}, FReps K Z (flatP vs) ds → kvsOf ds = some kvs → ∃ gs : List (Key × V), vs = gs.map (fun kv => (kV kv.1, kv.2)) ∧ gs.map (·.1) = kvs.map (·.1) ∧ FReps K Z (gs.map (·.2)) (kvs.map (·.2))
  | [], _, _, .nil, h => by cases h; exact ⟨[], rfl, rfl, .nil⟩
  | (x, y) :: vs, k :: d :: r, kvs, .cons h1 (.cons h2 h3), h => by
    obtain ⟨q, e1, e2⟩ := Option.bind_eq_some_iff.mp h
    obtain ⟨kvs', e3, e4⟩ := Option.bind_eq_some_iff.mp e2
    cases e4
    obtain ⟨gs, g1, g2, g3⟩ := kvs_rel h3 e3
    refine ⟨(q, y) :: gs, ?_, by rw [List.map_cons, List.map_cons, g2], .cons h2 g3⟩
    rw [List.map_cons, g1]
    have : x = kV q := by
      cases k <;> cases e1
      · cases h1.leaf_of (d := .int _) rfl; rfl
      · cases h1.leaf_of (d := .str _) rfl; rfl
    rw [this]
theorem re_disp {ps : List (FE × FE)} (h : RE K E (fDisp ps) σ H Q) : tDisp (ps.map fun p => (RE K E p.1, RE K E p.2)) σ H Q := by
  obtain ⟨Z, es, s, hv, k⟩ := h
  intro p np
  obtain ⟨s1, st1⟩ := s.new (New.o1 (o := .dK []) (d := .dk []) s.sub np rfl rfl .nil)
  rw [List.nil_append] at s1 st1
  refine tp_ok (n := fun q => kdispD q.1 q.2) s1 hv (Kon.from st1 (by rw [List.append_nil]; exact k)) fun Z2 H2 es2 us vs e1 s2 hv2 k2 => ?_
  dsimp only at k2
  unfold kdispD at k2
  cases hd : (frzL (ssOf us)).bind kvsOf with
  | none => rw [hd] at k2; exact k2.elim
  | some kvs =>
    rw [hd] at k2
    dsimp only at k2
    obtain ⟨ds, d1, d2⟩ := Option.bind_eq_some_iff.mp hd
    split at k2
    · rename_i hc
      obtain ⟨Z3, s3, st3⟩ := s2.freeze (Fzd.refl es2) (Fzd.app (Fzd.refl [⟨some (.ref p), .ow .o1 (.dk []), [p]⟩]) (Fzd.all us))
      have fr := frz_reps (es := es2) (us := us) (fun u m => s3.ok u (by simp only [List.mem_append]; exact .inr (.inr m))) d1 e1
      obtain ⟨gs, g1, g2, g3⟩ := kvs_rel fr d2
      obtain ⟨y, y1, y2⟩ := s3.ok ⟨some (.ref p), .ow .o1 (.dk []), [p]⟩ (by simp)
      cases y1
      rcases y2 with ⟨y2, _⟩ | ⟨a, o, kk, vs', ds', e9, h5, ov, dv, fr', _⟩
      · cases y2
      · cases e9
        cases dv
        obtain ⟨gs0, rfl, z1, z2⟩ := oview_dk ov
        have : gs0 = [] := by cases gs0 with | nil => rfl | cons _ _ => cases z1
        subst this
        have hl : gs.length = kvs.length := by have := congrArg List.length g2; simpa using this
        refine ⟨h5, gs, g1, by rw [hl]; exact hc.1, ?_⟩
        rw [merge_nodup gs [] (by rw [List.nil_append, g2]; exact hc.2), List.nil_append]
        have s4 : Sat K Z3 H2 es2 [⟨some (.ref p), .ow .o1 (.dk []), [p]⟩] := s3.drop
        have na : p ∉ fpsOf es2 := fun m => by
          have nd := s4.nd
          simp only [fpsOf, List.flatMap_append, List.nodup_append] at nd
          exact nd.2.2 p m p (by simp) rfl
        obtain ⟨s5, st5⟩ := s4.write (a := p) (o := .dK gs) (k := .dk (kvs.map (·.1))) (d' := .dk kvs) (fps_app.mpr (.inr (by simp))) (Wr.refl na) (.cons (.inr ⟨rfl, rfl, rfl⟩) .nil) (by show some (Kd.dk _, _) = _; rw [g2]) rfl g3
        have st6 : Step Z2 H2 (fpsOf (es2 ++ ([⟨some (.ref p), .ow .o1 (.dk []), [p]⟩] ++ us))) Z3 H2 (fpsOf (es2 ++ [⟨some (.ref p), .ow .o1 (.dk []), [p]⟩])) := st3.less fun a m => by
          rcases fps_app.mp m with q | q
          · exact fps_app.mpr (.inl q)
          · exact fps_app.mpr (.inr (fps_app.mpr (.inl q)))
        exact k2 Z3 _ es2 [⟨some (.ref p), .ow .o1 (.dk kvs), [p]⟩] (st6.tr st5) s5 hv2 rfl rfl (.ref p) rfl
    · exact k2.elim
def tyD (T : String) : D → Bool
  | .lst _ => decide (T = "list")
  | .str _ => decide (T = "str")
  | _ => false
theorem tyD_ok {T : String} {t : Tg} {d : D} {fp : List Addr} (s : SubM K Z H) (h : Rep K Z H t v d fp) (e : tyD T d = true) : tyV K T v H := by
  cases d with
  | lst xs =>
    obtain ⟨a, vs, rfl, q, _⟩ := rep_lstR s h
    exact .inl ⟨of_decide_eq_true e, vs, .of q⟩
  | str x =>
    have e' : T = "str" := of_decide_eq_true e
    rw [rep_str s h]; exact e'
  | _ => cases e
/-- a method that changes nothing; the receiver first -/
def OpM (K : PySem.W.Frag) (r : V → List V → Hp → VK → Prop) (op : Tg → D → List (Tg × D) → Option Sl) : Prop := ∀ {Z H : Hp} {t : Tg} {d : D} {v : V} {fp : List Addr} {vs : List V} {xs : List (Tg × D)} {res : Sl} {Q : VK}, SubM K Z H → Rep K Z H t v d fp → AllRep K Z H vs xs → op t d xs = some res → (∀ Z' H' z fz, New K Z H Z' H' z res fz → Q z H') → r v vs H Q
def kbm (op : Tg → D → List (Tg × D) → Option Sl) (r : Sl) (rs ss : List Sl) : Ro (Sl × List Sl) := orS ((r.val ss).bind fun x => (valL ss rs).bind fun ys => op x.1 x.2 ys) ss
def tyS (T : String) (r : Sl) (ss : List Sl) : Bool := match r.val ss with
  | some (_, d) => tyD T d
  | none => false
def fBM (T : String) (op : Tg → D → List (Tg × D) → Option Sl) (fo : FE) (ft : FA) : FE := fun ss => (fo ss).bind fun p => if tyS T p.1 p.2 = true then (ft p.2).bind fun q => kbm op p.1 q.1 q.2 else .stuck
theorem tyS_ok {T : String} {e : Ent} {x : V} (s : Sat K Z H es ts) (m : e ∈ es ++ ts) (hx : e.v = some x) (h : tyS T e.s (ssOf es) = true) : tyV K T x H := by
  unfold tyS at h
  split at h
  · rename_i t d e1
    obtain ⟨f, rp, _⟩ := s.val m hx e1
    exact tyD_ok s.sub rp h
  · cases h
theorem re_bm {T : String} {r : V → List V → Hp → VK → Prop} {op : Tg → D → List (Tg × D) → Option Sl} {fo : FE} {ft : FA} (ho : OpM K r op) (h : RE K E (fBM T op fo ft) σ H Q) : tBM K T r (RE K E fo) (RA K E ft) σ H Q := by
  obtain ⟨Z, es, s, hv, k⟩ := h
  refine RE.next (ts := []) (n := fun p => if tyS T p.1 p.2 = true then (ft p.2).bind fun q => kbm op p.1 q.1 q.2 else .stuck) s hv (by rw [List.append_nil]; exact k) fun a Z1 H1 es1 x fx s1 hv1 k1 => ?_
  dsimp only at k1
  split at k1
  · rename_i ht
    refine ⟨tyS_ok (e := ⟨some x, a, fx⟩) s1 (by simp) rfl ht, RA.next (n := fun q => kbm op a q.1 q.2) s1 hv1 k1 fun Z2 H2 es2 us vs e2 s2 hv2 k2 => ?_⟩
    obtain ⟨r', hr, k3⟩ := Kon.some k2
    obtain ⟨⟨t, d⟩, h1, h2⟩ := Option.bind_eq_some_iff.mp hr
    obtain ⟨ys, h3, h4⟩ := Option.bind_eq_some_iff.mp h2
    obtain ⟨f, rp, _⟩ := s2.val (e := ⟨some x, a, fx⟩) (by simp) rfl h1
    exact ho s2.sub rp (s2.vals (fun u m => by simp [m]) e2 h3) h4 fun Z' H' u fu n => fin_new s2 hv2 k3 n
  · exact k1.elim
/-- a method that changes its owner: what stands there then, what is told -/
def OpU (K : PySem.W.Frag) (r : V → List V → Hp → VK → Prop) (op : D → List D → Option (D × D)) : Prop := ∀ {Z H : Hp} {a : Addr} {o : HO} {k : Kd} {vs ws : List V} {d : D} {ds xs : List D} {d' res : D} {Q : VK}, SubM K Z H → H a = some o → oview o = some (k, vs) → dview K d = some (k, ds) → FReps K Z vs ds → FReps K Z ws xs → op d xs = some (d', res) →
  (∀ o' k' vs' ds' z, oview o' = some (k', vs') → dview K d' = some (k', ds') → FReps K Z vs' ds' → FRep K Z z res → Q z (upd H a o')) → r (.ref a) ws H Q
def kmu (op : D → List D → Option (D × D)) (r : Sl) (rs ss : List Sl) : Ro (Sl × List Sl) := match r with
  | .al i => match ss[i]? with
    | some (.ow .o1 d) => match (frzL rs).bind fun xs => op d xs with
      | some q => .ok (.fz q.2, ss.set i (.ow .o1 q.1))
      | none => .stuck
    | _ => .stuck
  | _ => .stuck
def nodeD : D → Bool
  | .lst _ | .tup _ | .dk _ | .dt _ | .ins _ _ => true
  | _ => false
def fMU (T : String) (op : D → List D → Option (D × D)) (fo : FE) (ft : FA) : FE := fun ss => (fo ss).bind fun p => if tyS T p.1 p.2 = true then (ft p.2).bind fun q => kmu op p.1 q.1 q.2 else .stuck
theorem kmu_ok {r : V → List V → Hp → VK → Prop} {op : D → List D → Option (D × D)} {x : V} {a : Sl} {fx : List Addr} {vs : List V} (ho : OpU K r op) (hn : ∀ d xs q, op d xs = some q → nodeD d = true) (s : Sat K Z H es ([⟨some x, a, fx⟩] ++ us)) (hv : vsOf es = σ) (e : vsOf us = vs.map some)
    (k : KQ K E σ Z H (fpsOf (es ++ ([⟨some x, a, fx⟩] ++ us))) (kmu op a (ssOf us) (ssOf es)) Q) : r x vs H Q := by
  unfold kmu at k
  cases a with
  | un => exact k.elim
  | fz _ => exact k.elim
  | ow _ _ => exact k.elim
  | al i =>
    dsimp only at k
    obtain ⟨_, u, y, y1, y2, y3⟩ := s.ok ⟨some x, .al i, fx⟩ (by simp)
    cases y3
    rw [show (ssOf es)[i]? = some u.s by rw [List.getElem?_map, y1]; rfl] at k
    split at k
    · rename_i d hu
      have hu' : u.s = .ow .o1 d := by simpa using hu
      split at k
      · rename_i q hq
        obtain ⟨xs, x1, x2⟩ := Option.bind_eq_some_iff.mp hq
        obtain ⟨Z1, s1, st1⟩ := s.freeze (Fzd.refl es) (Fzd.app (Fzd.refl [⟨some x, .al i, fx⟩]) (Fzd.all us))
        have fr := frz_reps (es := es) (us := us) (fun u m => s1.ok u (by simp only [List.mem_append]; exact .inr (.inr m))) x1 e
        have k1 := Kon.from st1 k
        have s2 := s1.bare
        have oku := s2.ok u (List.mem_append_left _ (List.mem_of_getElem? y1))
        have nd := hn _ _ _ x2
        obtain ⟨kk, ds, hd⟩ : ∃ kk ds, dview K d = some (kk, ds) := by
          cases d <;> first | exact ⟨_, _, rfl⟩ | cases nd
        obtain ⟨b, o, ws, o1, o2, o3, o4, o5⟩ := own_node oku hu' hd
        rw [y2] at o1; cases o1
        refine ho s2.sub o2 o3 hd o4 fr x2 fun o' k' vs' ds' z v1 v2 v3 v4 => ?_
        obtain ⟨es4, s4, st4, v5, e4⟩ := s2.writeAt (o := o') (d' := q.1) y1 o5 y2 v1 v2 v3
        obtain ⟨s5, e5⟩ := s4.more (e := ⟨some z, .fz q.2, []⟩) ⟨z, rfl, v4, rfl⟩ rfl
        rw [List.nil_append] at s5 e5
        rw [List.append_nil] at e5
        refine k1 Z1 _ es4 [⟨some z, .fz q.2, []⟩] ?_ s5 (by rw [v5]; exact hv) e4 rfl z rfl
        rw [e5]
        have st4' : Step Z1 H (fpsOf es) Z1 (upd H b o') (fpsOf es4) := by simpa only [List.append_nil] using st4
        exact st4'.wide fun c m => fps_app.mpr (.inl m)
      · exact k.elim
    · exact k.elim
theorem re_mu {T : String} {r : V → List V → Hp → VK → Prop} {op : D → List D → Option (D × D)} {fo : FE} {ft : FA} (ho : OpU K r op) (hn : ∀ d xs q, op d xs = some q → nodeD d = true) (h : RE K E (fMU T op fo ft) σ H Q) : tBM K T r (RE K E fo) (RA K E ft) σ H Q := by
  obtain ⟨Z, es, s, hv, k⟩ := h
  refine RE.next (ts := []) (n := fun p => if tyS T p.1 p.2 = true then (ft p.2).bind fun q => kmu op p.1 q.1 q.2 else .stuck) s hv (by rw [List.append_nil]; exact k) fun a Z1 H1 es1 x fx s1 hv1 k1 => ?_
  dsimp only at k1
  split at k1
  · rename_i ht
    exact ⟨tyS_ok (e := ⟨some x, a, fx⟩) s1 (by simp) rfl ht, RA.next (n := fun q => kmu op a q.1 q.2) s1 hv1 k1 fun Z2 H2 es2 us vs e2 s2 hv2 k2 => kmu_ok ho hn s2 hv2 e2 k2⟩
  · exact k1.elim
def opAppend : D → List D → Option (D × D)
  | .lst xs, [x] => if xs.length < sizeLine then some (.lst (xs ++ [x]), .non) else none
  | _, _ => none
theorem opAppend_node : ∀ d xs q, opAppend d xs = some q → nodeD d = true := fun d xs q h => by
  unfold opAppend at h
  split at h
  · rfl
  · cases h
theorem op_append_ok : OpU K rAppend opAppend := by
  intro Z H a o k vs ws d ds xs d' res Q s ho hv hd fr frw e kk
  unfold opAppend at e
  split at e
  · rename_i ys x
    split at e
    · rename_i hl
      cases e
      cases hd
      have := oview_lst hv
      subst this
      cases frw with
      | cons f1 f2 =>
        cases f2
        exact ⟨a, vs, _, rfl, rfl, ho, by rw [fr.len]; exact hl, kk (.lst (vs ++ [_])) .lst _ _ .non rfl rfl (fr.app (.cons f1 .nil)) (.leaf .non)⟩
    · cases e
  · cases e
def putFD (f : Str) (x : D) : List (Str × D) → List (Str × D)
  | [] => [(f, x)]
  | (g, y) :: r => if g = f then (g, x) :: r else (g, y) :: putFD f x r
theorem putFD_rel {f : Str} {d : D} (r : FRep K Z v d) : ∀ {gs : List (Str × V)} {fs : List (Str × D)}, gs.map (·.1) = fs.map (·.1) → FReps K Z (gs.map (·.2)) (fs.map (·.2)) →
    (putF f v gs).map (·.1) = (putFD f d fs).map (·.1) ∧ FReps K Z ((putF f v gs).map (·.2)) ((putFD f d fs).map (·.2))
  | [], [], _, _ => ⟨rfl, .cons r .nil⟩
  | (g, x) :: gs, (g', y) :: fs, e, h => by
    simp only [List.map_cons, List.cons.injEq] at e h
    obtain ⟨rfl, e⟩ := e
    cases h with
    | cons h1 h2 =>
      obtain ⟨i1, i2⟩ := putFD_rel r e h2
      show (((if g = f then (g, v) :: gs else (g, x) :: putF f v gs)).map (·.1) = (if g = f then (g, d) :: fs else (g, y) :: putFD f d fs).map (·.1)) ∧ _
      show _ ∧ FReps K Z (((if g = f then (g, v) :: gs else (g, x) :: putF f v gs)).map (·.2)) ((if g = f then (g, d) :: fs else (g, y) :: putFD f d fs).map (·.2))
      by_cases q : g = f
      · rw [if_pos q, if_pos q]
        refine ⟨by rw [List.map_cons, List.map_cons, e], .cons r h2⟩
      · rw [if_neg q, if_neg q]
        exact ⟨by rw [List.map_cons, List.map_cons, i1], .cons h1 i2⟩
  | [], _ :: _, e, _ => by cases e
  | _ :: _, [], e, _ => by cases e
def ksfld (cs : List Str) (f : Str) (x : Sl) (r : Sl) (ss : List Sl) : So := match r with
  | .al i => match ss[i]? with
    | some (.ow .o1 (.ins c fs)) => match frzL [x] with
      | some [d] => if c ∈ cs ∧ fs.length < 1000 then .nx (ss.set i (.ow .o1 (.ins c (putFD f d fs)))) else .stuck
      | _ => .stuck
    | _ => .stuck
  | _ => .stuck
def fSFld (cs : List Str) (f : Str) (fo fe : FE) : FS := fun ss => (fe ss).so fun p => (fo p.2).so fun q => ksfld cs f p.1 q.1 q.2
theorem rs_fld {cs : List Str} {f : Str} {fo fe : FE} (C : FldOk K cs f) (h : RS K E kp (fSFld cs f fo fe) De σ H) : sFld K (RE K E fo) (RE K E fe) f De σ H := by
  obtain ⟨Z, es, s, hv, k⟩ := h
  refine RE.so (ts := []) (n := fun p => (fo p.2).so fun q => ksfld cs f p.1 q.1 q.2) s hv (by rw [List.append_nil]; exact k) fun rx Z1 H1 es1 y fy s1 hv1 k1 => ?_
  refine RE.so (n := fun q => ksfld cs f rx q.1 q.2) s1 hv1 k1 fun r Z2 H2 es2 x fx s2 hv2 k2 => ?_
  dsimp only at k2
  unfold ksfld at k2
  cases r with
  | un => exact k2.elim
  | fz _ => exact k2.elim
  | ow _ _ => exact k2.elim
  | al i =>
    dsimp only at k2
    obtain ⟨_, u, z, y1, y2, y3⟩ := s2.ok ⟨some x, .al i, fx⟩ (by simp)
    cases y3
    rw [show (ssOf es2)[i]? = some u.s by rw [List.getElem?_map, y1]; rfl] at k2
    split at k2
    · rename_i c fs hu
      have hu' : u.s = .ow .o1 (.ins c fs) := by simpa using hu
      split at k2
      · rename_i d hd
        split at k2
        · rename_i hc
          obtain ⟨Z3, s3, st3⟩ := s2.freeze (Fzd.refl es2) (Fzd.app (Fzd.all [⟨some y, rx, fy⟩]) (Fzd.refl [⟨some x, .al i, fx⟩]))
          have fr := frz_reps (es := es2) (us := [⟨some y, rx, fy⟩]) (vs := [y]) (fun u m => s3.ok u (by simp only [List.mem_append]; exact .inr (.inl m))) hd rfl
          have frd : FRep K Z3 y d := by cases fr with | cons a _ => exact a
          have s4 := s3.bare
          obtain ⟨a, o, vs, o1, o2, o3, o4, o5⟩ := own_node (s4.ok u (List.mem_append_left _ (List.mem_of_getElem? y1))) hu' rfl
          obtain ⟨dx, gs, rfl, g1, rfl⟩ := oview_ins o3
          rw [y2] at o1; cases o1
          have hl : gs.length = fs.length := by have := congrArg List.length g1; simpa using this
          refine ⟨a, _, dx, gs, rfl, o2, (C c hc.1).1, (C c hc.1).2, by rw [hl]; exact hc.2, ?_⟩
          obtain ⟨p1, p2⟩ := putFD_rel (f := f) frd g1 o4
          obtain ⟨es5, s5, st5, v5, e5⟩ := s4.writeAt (o := .ins (He.ga K c) dx (putF f y gs)) (d' := .ins c (putFD f d fs)) (k := .ins (He.ga K c) ((putFD f d fs).map (·.1))) y1 o5 y2 (by show some (Kd.ins _ _, _) = _; rw [p1]) rfl p2
          have st5' : Step Z3 H2 (fpsOf es2) Z3 (upd H2 a (.ins (He.ga K c) dx (putF f y gs))) (fpsOf es5) := by simpa only [List.append_nil] using st5
          have := k2 Z3 _ es5 (st3.tr (st5'.wide fun c m => fps_app.mpr (.inl m))) s5 (by rw [v5, hv2]; exact Kept.refl _) e5
          rw [v5, hv2] at this
          exact this
        · exact k2.elim
      · exact k2.elim
    · exact k2.elim
end
end Mi
namespace Mi
open PySem PySem.Spec PyProof.Rows L2 Rt
section
variable {K : PySem.W.Frag} {E : EW} {E0 : XK} {kp : List Nat} {σ σ1 : L2.St} {Z H Z' H' Z1 H1 : Hp} {F F1 : List Addr} {es ts us es1 pre : List Ent} {v : V} {Q : VK} {De : Ends}
theorem len_body {n np : Nat} {f : FS} {vs : List V} (h : spM K (body n np kp f) vs H Q E0) : vs.length = np := by
  obtain ⟨Z, ts, s, hv, k⟩ := h
  unfold body at k
  by_cases hl : (ssOf ts).length = np
  · have := congrArg List.length hv
    simp at this hl
    omega
  · rw [if_neg hl] at k
    exact k.elim
theorem mem_lk {β : Type} : ∀ {l : List (Addr × β)} {a : Addr} {b : β}, l.lookup a = some b → (a, b) ∈ l
  | [], _, _, e => by cases e
  | (c, x) :: r, a, b, e => by
    rw [List.lookup_cons] at e
    split at e
    · rename_i q
      cases e
      rw [eq_of_beq q]; exact List.mem_cons_self
    · exact List.mem_cons_of_mem _ (mem_lk e)
/-- the marks of tables -/
def markZ (ts : List (Addr × Str)) : Hp := fun b => (ts.lookup b).map fun q => .tbl #[.str q 0]
/-- tables that are empty, of one name each, at least those that the written part asks for -/
structure TabList (K : PySem.W.Frag) (H : Hp) (ts : List (Addr × Str)) : Prop where
  at_ : ∀ p ∈ ts, H p.1 = some (.tbl #[])
  all : ∀ P q, TabOf K P q → ts.lookup P = some q
/-- the script, as the law is handed it, and the tables -/
def OnlyS (ts : List (Addr × Str)) (H : Hp) : Prop := ∀ b, H b = none ∨ (∃ p ∈ ts, b = p.1) ∨ ∃ o xs, H b = some (.frz o (.lst xs))
theorem look_at {ts : List (Addr × Str)} {b : Addr} {q : Str} (h : ts.lookup b = some q) : (b, q) ∈ ts := mem_lk h
theorem mark_of {ts : List (Addr × Str)} {b : Addr} {o : HO} (h : markZ ts b = some o) : ∃ q, ts.lookup b = some q ∧ o = .tbl #[.str q 0] := by
  obtain ⟨q, e1, e2⟩ := Option.map_eq_some_iff.mp h
  exact ⟨q, e1, e2.symm⟩
theorem script_sat {a : Addr} {ns : List Int} {ts : List (Addr × Str)} (hT : TabList K H ts) (ho : OnlyS ts H) (h : SqL K H a (ns.map V.int)) : ∃ Z, Sat K Z H [] [⟨some (.ref a), .fz (.scr ns), []⟩] := by
  have tb : ∀ (Z : Hp) b m, markZ ts b = some (.tbl m) → TabZ Z H b (nmOf m) := fun Z b m e => TabZ.nil (by
    obtain ⟨q, e1, _⟩ := mark_of e
    exact hT.at_ _ (look_at e1))
  have tm : ∀ P q, TabOf K P q → ∃ m, markZ ts P = some (.tbl m) ∧ nmOf m = q := fun P q h => ⟨#[.str q 0], by unfold markZ; rw [hT.all P q h]; rfl, rfl⟩
  rcases h with (h | ⟨o, h⟩) | h
  · rcases ho a with z | ⟨p, mp, rfl⟩ | ⟨o, xs, z⟩
    · rw [h] at z; cases z
    · have := hT.at_ p mp; rw [h] at this; cases this
    · rw [h] at z; cases z
  · have ne : ∀ p ∈ ts, p.1 ≠ a := fun p mp z => by
      have := hT.at_ p mp
      rw [z, h] at this; cases this
    refine ⟨fun b => if b = a then some (.frz o (.lst (ns.map V.int))) else markZ ts b, ⟨⟨⟨fun b u e n => ?_, fun b m e => ?_⟩, fun P q hq => ?_⟩, by simp, fun b m => by simp at m, fun e m => ?_⟩⟩
    · by_cases q : b = a
      · subst q; simp at e; subst e; exact .inl h
      · rw [if_neg q] at e
        obtain ⟨_, _, rfl⟩ := mark_of e
        exact absurd trivial n
    · by_cases q : b = a
      · subst q; simp at e
      · rw [if_neg q] at e; exact tb _ b m e
    · obtain ⟨m, e, n⟩ := tm P q hq
      have : P ≠ a := ne _ (look_at (hT.all P q hq))
      exact ⟨m, by rw [if_neg this]; exact e, n⟩
    · simp at m
      subst m
      exact ⟨_, rfl, .node (o := .frz o (.lst (ns.map V.int))) (k := .scr) (vs := ns.map V.int) (ds := ns.map D.int) (by simp) rfl rfl (FReps.ofInts ns), rfl⟩
  · refine ⟨markZ ts, ⟨⟨⟨fun b u e n => ?_, tb _⟩, tm⟩, by simp, fun b m => by simp at m, fun e m => ?_⟩⟩
    · obtain ⟨_, _, rfl⟩ := mark_of e
      exact absurd trivial n
    · simp at m
      subst m
      exact ⟨_, rfl, .wr (k := .scr) (vs := ns.map V.int) (ds := ns.map D.int) (.inr h) rfl (FReps.ofInts ns), rfl⟩
theorem law_spT {m : Fm} {a : Addr} {ns : List Int} {ts : List (Addr × Str)} (hT : TabList K H ts) (ho : OnlyS ts H) (h : SqL K H a (ns.map V.int)) (hm : ∃ as, m [.fz (.scr ns)] = .ret (.fz (.bl true)) as) : spM K m [.ref a] H (fun v _ => v = .bl true) fun _ _ _ => False := by
  obtain ⟨Z, s⟩ := script_sat hT ho h
  obtain ⟨as, e⟩ := hm
  refine ⟨Z, _, s, rfl, ?_⟩
  show match m [.fz (.scr ns)] with | .ret r as' => _ | .exc c fs as' => _ | .stuck => _
  rw [e]
  intro Z' H' ts' v fv st s' vk e'
  obtain ⟨x, x1, x2, _⟩ := s'.ok ⟨some v, .fz (.bl true), fv⟩ (by simp)
  cases x1
  cases x2.leaf_of (d := .bl true) rfl
  rfl
theorem law_sp {m : Fm} {a : Addr} {ns : List Int} (hn : lamTf = []) (ho : Only H) (h : SqL K H a (ns.map V.int)) (hm : ∃ as, m [.fz (.scr ns)] = .ret (.fz (.bl true)) as) : spM K m [.ref a] H (fun v _ => v = .bl true) fun _ _ _ => False :=
  law_spT (ts := []) ⟨fun p m => (nomatch m), fun P q ⟨p, m, _⟩ => by rw [hn] at m; cases m⟩ (fun b => (ho b).imp id .inr) h hm
end
section
variable {X : Cx} {E : EW} {E0 : XK} {kp : List Nat} {e a b c o : Expr} {es' : List Expr} {pos apos cpos p : Pos} {fa fb fz fo : FE} {ft fk : FA} {f g : FS} {CX : CXT} {k : Nat} {fA : Addr} {fd : FuncData} {ps : List Str} {m : Fm} {dds : List D} {dvs : List V} {ds : List Value} {x : Str}
end
end Mi
namespace Mi
open PySem PySem.Spec PyProof.Rows L2 Rt
section
variable {X : Cx} {E : EW} {E0 : XK} {kp : List Nat} {e a b c o : Expr} {es' : List Expr} {fa fb fc' fo : FE} {ft fk : FA} {f g : FS} {ta tb : FT} {m : Fm} {dds : List D} {dvs : List V}
theorem po_mono {lo : Option Expr} {t t' : TO} (p : PO X lo t) (h : ∀ σ H Q, t' σ H Q → t σ H Q) : PO X lo t' := ⟨fun pins s σ H Q I q => p.run pins s σ H Q I (h σ H Q q)⟩
theorem pi_mono {tg it : Expr} {t t' : TI} (p : PI X tg it t) (h : ∀ σ H Q, t' σ H Q → t σ H Q) : PI X tg it t' := ⟨fun pins s σ H Q I q => p.run pins s σ H Q I (h σ H Q q)⟩
theorem pg_mono {tg : Expr} {t t' : TG} (p : PG X tg t) (h : ∀ v σ H Q, t' v σ H Q → t v σ H Q) : PG X tg t' := ⟨fun pins s σ H v u Q I r q => p.run pins s σ H v u Q I r (h v σ H Q q)⟩
theorem pgs_mono {tg : List Expr} {t t' : TGs} (p : PGs X tg t) (h : ∀ v σ H Q, t' v σ H Q → t v σ H Q) : PGs X tg t' := ⟨fun pins s σ H v u Q I r q => p.run pins s σ H v u Q I r (h v σ H Q q)⟩
theorem pw_mono {t t' : TT} (p : PW X e t) (h : ∀ σ H Q, t' σ H Q → t σ H Q) : PW X e t' := ⟨fun w pins s σ H Q I q => p.run w pins s σ H Q I (h σ H Q q)⟩
theorem cv_var {i : Nat} (h : PE X e (tVar i)) : PE X e (RE X.K E (fvar i)) := pe_mono h fun _ _ _ q => re_var q
theorem cv_c {v : V} {d : D} (l : Leaf X.K v d) (h : PE X e (tC v)) : PE X e (RE X.K E (fc d)) := pe_mono h fun _ _ _ q => re_c l q
theorem cv_frz (h : PE X e (RE X.K E fa)) : PE X e (RE X.K E (ffrz fa)) := pe_mono h fun _ _ _ q => re_frz q
theorem cv_un {r : V → Hp → VK → Prop} {q : Tg → D → Option Sl} (hq : Op1 X.K r q) (h : PE X e (tUn r (RE X.K E fa))) : PE X e (RE X.K E (f1 q fa)) := pe_mono h fun _ _ _ z => re_un hq z
theorem cv_notT (h : PE X e (tNotT X.K (RE X.K E fa))) : PE X e (RE X.K E (f1 opNot fa)) := pe_mono h fun _ _ _ z => re_notT z
theorem cv_op {r : R2} {q : Tg → D → Tg → D → Option Sl} (hq : Op2 X.K r q) (h : PE X e (tOp r (RE X.K E fa) (RE X.K E fb))) : PE X e (RE X.K E (f2 q fa fb)) := pe_mono h fun _ _ _ z => re_op hq z
theorem ct_op {r : R2} {q : Tg → D → Tg → D → Option Sl} (hq : Op2 X.K r q) (h : PT X e (tTest (tOp r (RE X.K E fa) (RE X.K E fb)))) : PT X e (RT X.K E (fTest (f2 q fa fb))) := pt_mono h fun _ _ _ z => re_op hq (rt_test z)
theorem cv_cb {r : List V → Hp → VK → Prop} {q : List (Tg × D) → Option Sl} (hq : OpN X.K r q) (h : PE X e (tCB r (RA X.K E ft))) : PE X e (RE X.K E (fN q ft)) := pe_mono h fun _ _ _ z => re_cb hq z
theorem cv_sl {fl fh : FO} (h : PE X e (L2.tSl (rSlW X.K) (RE X.K E fa) (RO X.K E fl) (RO X.K E fh))) : PE X e (RE X.K E (fSl fa fl fh)) := pe_mono h fun _ _ _ z => re_sl z
theorem co_no {lo : Option Expr} (h : PO X lo tNoPart) : PO X lo (RO X.K E fNoPart) := po_mono h fun _ _ _ z => ro_no z
theorem co_part {lo : Option Expr} (h : PO X lo (tPart (RE X.K E fa))) : PO X lo (RO X.K E (fPart fa)) := po_mono h fun _ _ _ z => ro_part z
theorem cv_fld {cs : List Str} {n : Str} (C : FldOk X.K cs n) (h : PE X e (tFld X.K (RE X.K E fa) n)) : PE X e (RE X.K E (f1 (opFld cs n) fa)) := pe_mono h fun _ _ _ z => re_fld C z
theorem cv_tup (h : PE X e (tTup (RA X.K E ft))) : PE X e (RE X.K E (fTup ft)) := pe_mono h fun _ _ _ z => re_tup z
theorem cv_lst (h : PE X e (tLst (RA X.K E ft))) : PE X e (RE X.K E (fLst ft)) := pe_mono h fun _ _ _ z => re_lst z
theorem cv_disp {ps : List (FE × FE)} (h : PE X e (tDisp (ps.map fun p => (RE X.K E p.1, RE X.K E p.2)))) : PE X e (RE X.K E (fDisp ps)) := pe_mono h fun _ _ _ z => re_disp z
theorem cv_if (h : PE X e (tIf (RT X.K E ta) (RE X.K E fa) (RE X.K E fb))) : PE X e (RE X.K E (fIf ta fa fb)) := pe_mono h fun _ _ _ z => re_if z
theorem cv_call (hd : Paired (Leaf X.K) dvs dds) (h : PE X e (tCall (spM X.K m) dvs E0 (RA X.K (fun _ => E0) ft))) : PE X e (RE X.K (fun _ => E0) (fCall m dds ft)) := pe_mono h fun _ _ _ z => re_call hd z
theorem cv_meth {n k : Str} (hd : Paired (Leaf X.K) dvs dds) (h : PE X e (tMeth (He.ga X.K n) k (spM X.K m) dvs E0 (RE X.K (fun _ => E0) fo) (RA X.K (fun _ => E0) ft))) : PE X e (RE X.K (fun _ => E0) (fMeth n k m dds fo ft)) := pe_mono h fun _ _ _ z => re_meth hd z
theorem cv_make {n : Str} {tg : Tg} (ht : tg ≠ .fz) (hd : Paired (Leaf X.K) dvs dds) (h : PE X e (tMake (He.ga X.K n) (spM X.K m) dvs E0 (RA X.K (fun _ => E0) ft))) : PE X e (RE X.K (fun _ => E0) (fMake n tg m dds ft)) := pe_mono h fun _ _ _ z => re_make ht hd z
theorem cv_bm {T : String} {r : V → List V → Hp → VK → Prop} {q : Tg → D → List (Tg × D) → Option Sl} (hq : OpM X.K r q) (h : PE X e (tBM X.K T r (RE X.K E fo) (RA X.K E ft))) : PE X e (RE X.K E (fBM T q fo ft)) := pe_mono h fun _ _ _ z => re_bm hq z
theorem cv_mu {T : String} {r : V → List V → Hp → VK → Prop} {q : D → List D → Option (D × D)} (hq : OpU X.K r q) (hn : ∀ d xs p, q d xs = some p → nodeD d = true) (h : PE X e (tBM X.K T r (RE X.K E fo) (RA X.K E ft))) : PE X e (RE X.K E (fMU T q fo ft)) := pe_mono h fun _ _ _ z => re_mu hq hn z
theorem ca_nil {es : List Expr} (h : PA X es tNil) : PA X es (RA X.K E fnil) := pa_mono h fun _ _ _ z => ra_nil z
theorem ca_cons {es : List Expr} (h : PA X es (tCons (RE X.K E fa) (RA X.K E ft))) : PA X es (RA X.K E (fcons fa ft)) := pa_mono h fun _ _ _ z => ra_cons z
theorem ct_trv (h : PT X e (tTrv X.K (RE X.K E fa))) : PT X e (RT X.K E (fTrv fa)) := pt_mono h fun _ _ _ z => rt_trv z
theorem cw_and (h : PW X e (tAnd (RT X.K E ta) (RT X.K E tb))) : PW X e (RT X.K E (fAnd ta tb)) := pw_mono h fun _ _ _ z => rt_and z
theorem cw_or (h : PW X e (tOr (RT X.K E ta) (RT X.K E tb))) : PW X e (RT X.K E (fOr ta tb)) := pw_mono h fun _ _ _ z => rt_or z
theorem ct_not (h : PT X e (tNot (RT X.K E ta))) : PT X e (RT X.K E (fNot ta)) := pt_mono h fun _ _ _ z => rt_not z
theorem cts_yes : PTs X [] (RT X.K E fYes) := ⟨fun pins s σ H Q I q => pts_nil.run pins s σ H Q I (rt_yes q)⟩
theorem ci_rng1 {tg it : Expr} (h : PI X tg it (iRng1 (RA X.K E (fcons fa fnil)))) : PI X tg it (RI X.K E (iRngF (fcons fa fnil))) := pi_mono h fun _ _ _ z => ri_rng1 z
theorem cg_name {tg : Expr} {i : Nat} (hk : i ∉ kp) (h : PG X tg (gName i)) : PG X tg (RG X.K E kp (gN i)) := pg_mono h fun _ _ _ _ z => rg_name hk z
theorem cgs_nil {tg : List Expr} (h : PGs X tg gNil) : PGs X tg (RGs X.K E kp []) := pgs_mono h fun _ _ _ _ z => rgs_nil z
theorem cgs_cons {tg : List Expr} {g : FG} {gs : List FG} (h : PGs X tg (gCons (RG X.K E kp g) (RGs X.K E kp gs))) : PGs X tg (RGs X.K E kp (g :: gs)) := pgs_mono h fun _ _ _ _ z => rgs_cons z
theorem cg_tup {tg : Expr} {n : Nat} {gs : List FG} (h : PG X tg (gSeqT X.K n (RGs X.K E kp gs))) : PG X tg (RG X.K E kp (gT n gs)) := pg_mono h fun _ _ _ _ z => rg_tup z
theorem cg_sub {tg : Expr} (h : PG X tg (gSub (RE X.K E fo) (RE X.K E fk') rSetU)) : PG X tg (RG X.K E kp (gSubF fo fk')) := pg_mono h fun _ _ _ _ z => rg_sub z
theorem cv_comp {fi : FI} {g : FG} {n : Nat} {vs : List Nat} (ho : ∀ r ss, OnOnly (g r ss)) (h : PE X e (tLc (RI X.K E fi) (RG X.K noE (kpC n vs) g) (RT X.K noE ta) (RE X.K noE fa) vs)) : PE X e (RE X.K E (fComp fi g ta fa n vs)) := pe_mono h fun _ _ _ z => re_comp ho z
variable {st : Stmt} {sts : List Stmt}
/-- .. and what is made is frozen -/
theorem cs_setcompF {fi : FI} {g : FG} {n i : Nat} {vs : List Nat} (ho : ∀ r ss, OnOnly (g r ss)) (hk : i ∉ kp) (h : PS X st (tAsg (tLc (RI X.K E fi) (RG X.K noE (kpC n vs) g) (RT X.K noE ta) (RE X.K noE fa) vs) (gName i))) : PS X st (RS X.K E kp (fSet i (ffrz (fComp fi g ta fa n vs)))) :=
  ps_mono h fun _ _ _ z => re_comp ho (re_frz (rs_set hk z))
theorem cs_nil : PSs X [] (RS X.K E kp fNext) := pss_mono pss_nil fun _ _ _ z => rs_next z
theorem cs_seq {f g : FS} (h : PSs X sts (tSeq (RS X.K E kp f) (RS X.K E kp g))) : PSs X sts (RS X.K E kp (fSeq f g)) := pss_mono h fun _ _ _ z => rs_seq z
theorem cs_never (h : PS X st tNever) : PS X st (RS X.K E kp fNever) := ps_mono h fun _ _ _ z => rs_never z
theorem cs_drop (h : PS X st (tDrop (RE X.K E fa))) : PS X st (RS X.K E kp (fDrop fa)) := ps_mono h fun _ _ _ z => rs_drop z
theorem cs_ret (h : PS X st (tRet (RE X.K E fa))) : PS X st (RS X.K E kp (fRet fa)) := ps_mono h fun _ _ _ z => rs_ret z
theorem cs_if (h : PS X st (tIfS (RT X.K E ta) (RS X.K E kp f) (RS X.K E kp g))) : PS X st (RS X.K E kp (fIfS ta f g)) := ps_mono h fun _ _ _ z => rs_if z
theorem cs_set {i : Nat} (hk : i ∉ kp) (h : PS X st (tAsg (RE X.K E fa) (gName i))) : PS X st (RS X.K E kp (fSet i fa)) := ps_mono h fun _ _ _ z => rs_set hk z
theorem cs_asg {g : FG} (ho : ∀ r ss, OnOnly (g r ss)) (h : PS X st (tAsg (RE X.K E fa) (RG X.K E kp g))) : PS X st (RS X.K E kp (fAsg g fa)) := ps_mono h fun _ _ _ z => rs_asg ho z
theorem cs_par {i j : Nat} (hi : i ∉ kp) (hj : j ∉ kp) (h : PS X st (tPar i j (RA X.K E ft))) : PS X st (RS X.K E kp (fPar2 i j ft)) := ps_mono h fun _ _ _ z => rs_par hi hj z
theorem cs_while (h : PS X st (tWhile (RT X.K E ta) (RS X.K E kp f))) : PS X st (RS X.K E kp (fWhile ta f)) := ps_mono h fun _ _ _ z => rs_while z
theorem cs_for {fi : FI} {g : FG} (ho : ∀ r ss, OnOnly (g r ss)) (h : PS X st (tFor (RI X.K E fi) (RG X.K E kp g) (RS X.K E kp f))) : PS X st (RS X.K E kp (fFor fi g f)) := ps_mono h fun _ _ _ z => rs_for ho z
theorem cs_fld {cs : List Str} {n : Str} (C : FldOk X.K cs n) (h : PS X st (sFld X.K (RE X.K E fo) (RE X.K E fa) n)) : PS X st (RS X.K E kp (fSFld cs n fo fa)) := ps_mono h fun _ _ _ z => rs_fld C z
end
theorem on_N (i : Nat) (r : Sl) (ss : List Sl) : OnOnly (gN i r ss) := on_set i r ss
theorem on_T1 {n : Nat} {gs : List FG} (h : ∀ g ∈ gs, ∀ r ss, OnOnly (g r ss)) : ∀ r ss, OnOnly (gT n gs r ss) := on_gT h
theorem on_nil : ∀ g ∈ ([] : List FG), ∀ r ss, OnOnly (g r ss) := fun _ h => by cases h
theorem on_cons {g : FG} {gs : List FG} (h : ∀ r ss, OnOnly (g r ss)) (t : ∀ g ∈ gs, ∀ r ss, OnOnly (g r ss)) : ∀ x ∈ g :: gs, ∀ r ss, OnOnly (x r ss) := fun x m => by
  rcases List.mem_cons.mp m with rfl | m
  · exact h
  · exact t x m
end Mi
namespace Mi
open PySem PySem.Spec PyProof.Rows L2 Rt
section
variable {K : PySem.W.Frag} {E : EW} {E0 : XK} {kp : List Nat} {σ σ1 : L2.St} {Z H Z' H' Z1 H1 : Hp} {es ts us es1 : List Ent} {v : V} {Q : VK}
def ktru (a : Sl) (ss : List Sl) : Option Bool := (a.val ss).bind fun x => truD x.2
/-- a and b, by truth; a is told as it is -/
def fAndV (fa fb : FE) : FE := fun ss => (fa ss).bind fun p => match ktru p.1 p.2 with
  | some true => fb p.2
  | some false => .ok p
  | none => .stuck
theorem re_andT {fa fb : FE} (h : RE K E (fAndV fa fb) σ H Q) : tAndT K (RE K E fa) (RE K E fb) σ H Q := by
  obtain ⟨Z, es, s, hv, k⟩ := h
  refine RE.next (ts := []) (n := fun p => match ktru p.1 p.2 with
    | some true => fb p.2
    | some false => .ok p
    | none => .stuck) s hv (by rw [List.append_nil]; exact k) fun a Z1 H1 es1 v fp s1 hv1 k1 => ?_
  dsimp only at k1
  cases ht : ktru a (ssOf es1) with
  | none => rw [ht] at k1; exact k1.elim
  | some b =>
    rw [ht] at k1
    obtain ⟨⟨t, d⟩, h1, h2⟩ := Option.bind_eq_some_iff.mp ht
    obtain ⟨f, rp, _⟩ := s1.val (e := ⟨some v, a, fp⟩) (by simp) rfl h1
    refine ⟨b, tru_of s1.sub rp h2, ?_⟩
    cases b with
    | true =>
      rw [if_pos rfl]
      exact RE.of s1.bare hv1 (Kon.from (Step.refl fun c m => fps_app.mpr (.inl m)) k1)
    | false =>
      rw [if_neg (by decide)]
      exact konAt (Step.refl fun a m => m) s1 hv1 rfl k1 rfl
theorem clsOk_of {cls : List Str} (h : ∀ c ∈ cls, ∀ (H : Hp) (a dx : Addr) (fs : List (Str × V)), H a = some (.ins (He.ga K c) dx fs) → TyX K H (.ref a) (.ref (He.ga K c))) (hc : isiChk K cls = true) : ClsOk K cls := by
  unfold isiChk at hc
  rw [List.all_eq_true] at hc
  refine ⟨h, fun c m b mb => ?_, fun c m b mb nb => ?_, fun c m e me => ?_⟩
  · have := hc c m
    rw [Bool.and_eq_true] at this
    have := List.all_eq_true.mp this.1 b mb
    rw [Bool.and_eq_true] at this
    exact of_decide_eq_true this.1
  · have := hc c m
    rw [Bool.and_eq_true] at this
    have := List.all_eq_true.mp this.1 b mb
    rw [Bool.and_eq_true, Bool.or_eq_true] at this
    rcases this.2 with q | q
    · exact absurd (of_decide_eq_true q) nb
    · exact of_decide_eq_true q
  · have := hc c m
    rw [Bool.and_eq_true] at this
    exact of_decide_eq_true (List.all_eq_true.mp this.2 e me)
end
section
variable {X : Cx} {E : EW} {E0 : XK} {e : Expr} {fa fb fo : FE} {ft fk : FA} {m : Fm} {dds : List D} {dvs : List V}
theorem cv_andT (h : PE X e (tAndT X.K (RE X.K E fa) (RE X.K E fb))) : PE X e (RE X.K E (fAndV fa fb)) := pe_mono h fun _ _ _ z => re_andT z
end
/-- within a def's body: what leaves a callee leaves the def -/
theorem pX {P : Program} {w : World} {K : PySem.W.Frag} {mg : Str → Option Value} {base : Heap} {N : List Str} {qual : Str} {scope : Scope} {f : Addr} {cd : Value} {A : Around} {outer : List Env} {s : Shared} {H : Hp} {E : XK} :
    Passes (L2.CX P w) (cxOf (L2.CX P w) P w K mg base N qual scope f cd A outer s H E) E := passes_call (takes_of rfl rfl rfl rfl) fun _ _ _ _ h => h
end Mi
namespace Mi
open PySem PySem.Spec PyProof.Rows L2 Rt
section
variable {α β : Type} {m m' : Ro α} {a : α} {c : Str} {fs : List (Str × D)} {ss s1 rs as : List Sl} {d d' : D} {t u : Tg} {i j n np k : Nat} {o o' : So} {g : FS} {x y : Int} {kp : List Nat} {r : Sl}
theorem e_bo {f : α → Ro β} : (Ro.ok a).bind f = f a := rfl
theorem e_bs {f : α → Ro β} : (Ro.stuck).bind f = .stuck := rfl
theorem e_be {f : α → Ro β} : (Ro.exc c fs ss).bind f = .exc c fs ss := rfl
theorem e_oo {f : α → So} : (Ro.ok a).so f = f a := rfl
theorem e_os {f : α → So} : (Ro.stuck).so f = .stuck := rfl
theorem e_oe {f : α → So} : (Ro.exc c fs ss).so f = .exc c fs ss := rfl
theorem e_qn : (So.nx ss).seq g = g ss := rfl
theorem e_qr : (So.rt r ss).seq g = .rt r ss := rfl
theorem e_qb : (So.bk ss).seq g = .bk ss := rfl
theorem e_qc : (So.ct ss).seq g = .ct ss := rfl
theorem e_qe : (So.exc c fs ss).seq g = .exc c fs ss := rfl
theorem e_qs : (So.stuck).seq g = .stuck := rfl
theorem e_ln : (So.nx ss).loop g = g ss := rfl
theorem e_lr : (So.rt r ss).loop g = .rt r ss := rfl
theorem e_lb : (So.bk ss).loop g = .nx ss := rfl
theorem e_lc : (So.ct ss).loop g = g ss := rfl
theorem e_le : (So.exc c fs ss).loop g = .exc c fs ss := rfl
theorem e_ls : (So.stuck).loop g = .stuck := rfl
theorem e_seq {f : FS} : fSeq f g ss = (f ss).seq g := rfl
theorem e_next : fNext ss = .nx ss := rfl
theorem e_drop {fe : FE} : fDrop fe ss = (fe ss).so fun p => .nx p.2 := rfl
theorem e_ret {fe : FE} : fRet fe ss = (fe ss).so fun p => .rt p.1 p.2 := rfl
def cIfS (f g : FS) (p : Bool × List Sl) : So := if p.1 = true then f p.2 else g p.2
theorem e_ifS {ft : FT} {f : FS} : fIfS ft f g ss = (ft ss).so (cIfS f g) := rfl
theorem e_cifS {f : FS} {b : Bool} : cIfS f g (b, ss) = if b = true then f ss else g ss := rfl
theorem e_never : fNever ss = .stuck := rfl
def cSet (i : Nat) (p : Sl × List Sl) : So := kset i p.1 p.2
theorem e_set {fe : FE} : fSet i fe ss = (fe ss).so (cSet i) := rfl
theorem e_cset : cSet i (r, ss) = kset i r ss := rfl
theorem e_kset : kset i r ss = if i < ss.length then .nx (setS i r ss) else .stuck := rfl
theorem e_setf : setS i (.fz d) ss = (ss.map (Sl.kill i)).set i (.fz d) := rfl
theorem e_seto : setS i (.ow t d) ss = (ss.map (Sl.kill i)).set i (.ow t d) := rfl
theorem e_setu : setS i .un ss = (ss.map (Sl.kill i)).set i .un := rfl
theorem e_seta : setS i (.al j) ss = if j = i then ss else (ss.map (Sl.kill i)).set i (.al j) := rfl
theorem e_kf : Sl.kill i (.fz d) = .fz d := rfl
theorem e_ko : Sl.kill i (.ow t d) = .ow t d := rfl
theorem e_ku : Sl.kill i .un = .un := rfl
theorem e_ka : Sl.kill i (.al j) = if j = i then .un else .al j := rfl
def cAsg (g : FG) (p : Sl × List Sl) : So := g p.1 p.2
theorem e_asg {g : FG} {fe : FE} : fAsg g fe ss = (fe ss).so (cAsg g) := rfl
theorem e_casg {g : FG} : cAsg g (r, ss) = g r ss := rfl
theorem e_gN : gN i r ss = kset i r ss := rfl
def gT1 (n : Nat) (gs : List FG) (ss : List Sl) : Option (Tg × D) → So
  | some (t, .tup ds) => if t.flat = true ∧ ds.length = n then gsL gs ds ss else .stuck
  | some (t, .lst ds) => if t.flat = true ∧ ds.length = n then gsL gs ds ss else .stuck
  | _ => .stuck
theorem e_gT {gs : List FG} : gT n gs r ss = gT1 n gs ss (r.val ss) := by unfold gT gT1; rfl
theorem e_gT1 {gs : List FG} {ds : List D} : gT1 n gs ss (some (t, .tup ds)) = if t.flat = true ∧ ds.length = n then gsL gs ds ss else .stuck := rfl
theorem e_gT1L {gs : List FG} {ds : List D} : gT1 n gs ss (some (t, .lst ds)) = if t.flat = true ∧ ds.length = n then gsL gs ds ss else .stuck := rfl
theorem e_gs0 : gsL [] [] ss = .nx ss := rfl
theorem e_gs1 {g : FG} {gs : List FG} {ds : List D} : gsL (g :: gs) (d :: ds) ss = (g (.fz d) ss).seq (gsL gs ds) := rfl
theorem e_par {ft : FA} : fPar2 i j ft ss = (ft ss).so fun p => kpar i j p.1 p.2 := rfl
def cPar (i : Nat) (a : Sl) (s : List Sl) : So := kset i a s
theorem e_cpar {a : Sl} : cPar i a ss = kset i a ss := rfl
theorem e_kpar {a b : Sl} : kpar i j [a, b] ss = if (∀ k, a = .al k → k ≠ j) ∧ i ≠ j then (kset j b ss).seq (cPar i a) else .stuck := rfl
theorem e_kparF {b : Sl} : kpar i j [.fz d, b] ss = if i = j then .stuck else (kset j b ss).seq (cPar i (.fz d)) := by
  rw [e_kpar]
  by_cases q : i = j
  · rw [if_neg (fun z => z.2 q), if_pos q]
  · rw [if_pos ⟨fun k e => (by cases e), q⟩, if_neg q]
theorem e_for {fi : FI} {g : FG} {f : FS} : fFor fi g f ss = (fi ss).so fun p => forD g f p.1 p.2 := rfl
theorem e_for0 {g : FG} {f : FS} : forD g f [] ss = .nx ss := rfl
def cFor (g : FG) (f : FS) (ds : List D) (s : List Sl) : So := (f s).loop (forD g f ds)
theorem e_for1 {g : FG} {f : FS} {ds : List D} : forD g f (d :: ds) ss = (g (.fz d) ss).seq (cFor g f ds) := rfl
theorem e_cfor {g : FG} {f : FS} {ds : List D} : cFor g f ds ss = (f ss).loop (forD g f ds) := rfl
def iSeq1 (p : Sl × List Sl) : Ro (List D × List Sl) := match p.1 with
  | .fz (.lst xs) => .ok (xs, p.2)
  | .fz (.tup xs) => .ok (xs, p.2)
  | _ => .stuck
theorem e_iseq {fa : FE} : iSeqF fa ss = (ffrz fa ss).bind iSeq1 := rfl
theorem e_iseqL {ds : List D} : iSeq1 (.fz (.lst ds), ss) = .ok (ds, ss) := rfl
theorem e_iseqT {ds : List D} : iSeq1 (.fz (.tup ds), ss) = .ok (ds, ss) := rfl
theorem e_irng {ft : FA} : iRngF ft ss = (ft ss).bind fun p => krng p.1 p.2 := rfl
theorem e_rng1 : krng [.fz (.int x)] ss = if inRg x then .ok (rangeD 0 x.toNat, ss) else .stuck := rfl
theorem e_rng2 : krng [.fz (.int x), .fz (.int y)] ss = if inRg x ∧ inRg y then .ok (rangeD x (y - x).toNat, ss) else .stuck := rfl
def fvO (i : Nat) (ss : List Sl) : Option Sl → Ro (Sl × List Sl)
  | some (.fz d) => .ok (.fz d, ss)
  | some (.ow _ _) => .ok (.al i, ss)
  | some (.al j) => .ok (.al j, ss)
  | _ => .stuck
theorem e_vr : fvar i ss = fvO i ss ss[i]? := by unfold fvar fvO; rfl
theorem e_vf : fvO i ss (some (.fz d)) = .ok (.fz d, ss) := rfl
theorem e_vo : fvO i ss (some (.ow t d)) = .ok (.al i, ss) := rfl
theorem e_va : fvO i ss (some (.al j)) = .ok (.al j, ss) := rfl
theorem e_vu : fvO i ss (some .un) = .stuck := rfl
theorem e_vn : fvO i ss none = .stuck := rfl
theorem e_cc : fc d ss = .ok (.fz d, ss) := rfl
theorem e_nil : fnil ss = .ok ([], ss) := rfl
def cCons2 (a : Sl) (q : List Sl × List Sl) : Ro (List Sl × List Sl) := .ok (a :: q.1, q.2)
def cCons (ft : FA) (p : Sl × List Sl) : Ro (List Sl × List Sl) := (ft p.2).bind (cCons2 p.1)
theorem e_cons {fa : FE} {ft : FA} : fcons fa ft ss = (fa ss).bind (cCons ft) := rfl
theorem e_ccons {ft : FA} : cCons ft (r, ss) = (ft ss).bind (cCons2 r) := rfl
theorem e_ccons2 : cCons2 r (rs, ss) = .ok (r :: rs, ss) := rfl
def alv : Option Sl → Option (Tg × D)
  | some (.fz d) => some (.fz, d)
  | some (.ow t d) => some (t, d)
  | _ => none
theorem e_valf : (Sl.fz d).val ss = some (.fz, d) := rfl
theorem e_valo : (Sl.ow t d).val ss = some (t, d) := rfl
theorem e_vala : (Sl.al i).val ss = alv ss[i]? := by unfold Sl.val alv; rfl
theorem e_alf : alv (some (.fz d)) = some (.fz, d) := rfl
theorem e_alo : alv (some (.ow t d)) = some (t, d) := rfl
theorem e_vl0 : valL ss [] = some [] := rfl
theorem e_vl1 : valL ss (r :: rs) = (r.val ss).bind fun x => (valL ss rs).bind fun xs => some (x :: xs) := rfl
theorem e_orS : orS (some r) ss = .ok (r, ss) := rfl
theorem e_orN : orS none ss = .stuck := rfl
def cK1 (op : Tg → D → Option Sl) (p : Sl × List Sl) : Ro (Sl × List Sl) := k1 op p.1 p.2
def cK2 (op : Tg → D → Tg → D → Option Sl) (a : Sl) (p : Sl × List Sl) : Ro (Sl × List Sl) := k2 op a p.1 p.2
def cF2 (op : Tg → D → Tg → D → Option Sl) (fb : FE) (p : Sl × List Sl) : Ro (Sl × List Sl) := (fb p.2).bind (cK2 op p.1)
def cKN (op : List (Tg × D) → Option Sl) (p : List Sl × List Sl) : Ro (Sl × List Sl) := kN op p.1 p.2
theorem e_f1 {op : Tg → D → Option Sl} {fa : FE} : f1 op fa ss = (fa ss).bind (cK1 op) := rfl
theorem e_ck1 {op : Tg → D → Option Sl} : cK1 op (r, ss) = k1 op r ss := rfl
theorem e_cf2 {op : Tg → D → Tg → D → Option Sl} {fb : FE} : cF2 op fb (r, ss) = (fb ss).bind (cK2 op r) := rfl
theorem e_ck2 {op : Tg → D → Tg → D → Option Sl} {a : Sl} : cK2 op a (r, ss) = k2 op a r ss := rfl
theorem e_ckN {op : List (Tg × D) → Option Sl} : cKN op (rs, ss) = kN op rs ss := rfl
theorem e_f2 {op : Tg → D → Tg → D → Option Sl} {fa fb : FE} : f2 op fa fb ss = (fa ss).bind (cF2 op fb) := rfl
theorem e_fN {op : List (Tg × D) → Option Sl} {fa : FA} : fN op fa ss = (fa ss).bind (cKN op) := rfl
theorem e_k1 {op : Tg → D → Option Sl} {a : Sl} : k1 op a ss = orS ((a.val ss).bind fun x => op x.1 x.2) ss := rfl
theorem e_k2 {op : Tg → D → Tg → D → Option Sl} {a b : Sl} : k2 op a b ss = orS ((a.val ss).bind fun x => (b.val ss).bind fun y => op x.1 x.2 y.1 y.2) ss := rfl
theorem e_kN {op : List (Tg × D) → Option Sl} : kN op rs ss = orS ((valL ss rs).bind op) ss := rfl
def cFrz (p : Sl × List Sl) : Ro (Sl × List Sl) := kfrz p.1 p.2
theorem e_fz {fa : FE} : ffrz fa ss = (fa ss).bind cFrz := rfl
theorem e_cfrz : cFrz (r, ss) = kfrz r ss := rfl
theorem e_kff : kfrz (.fz d) ss = .ok (.fz d, ss) := rfl
theorem e_kfo : kfrz (.ow t d) ss = .ok (.fz d, ss) := rfl
def kfz (i : Nat) (ss : List Sl) : Option Sl → Ro (Sl × List Sl)
  | some (.ow _ d) => .ok (.fz d, ss.set i (.fz d))
  | some (.fz d) => .ok (.fz d, ss)
  | _ => .stuck
theorem e_kfa : kfrz (.al i) ss = kfz i ss ss[i]? := by unfold kfrz kfz; rfl
theorem e_kfzo : kfz i ss (some (.ow t d)) = .ok (.fz d, ss.set i (.fz d)) := rfl
theorem e_kfzf : kfz i ss (some (.fz d)) = .ok (.fz d, ss) := rfl
theorem e_fl0 : frzL [] = some [] := rfl
theorem e_flf : frzL (.fz d :: rs) = (frzL rs).bind fun ds => some (d :: ds) := rfl
theorem e_flo : frzL (.ow t d :: rs) = (frzL rs).bind fun ds => some (d :: ds) := rfl
def kd1 (f : List D → D) (own : Bool) (ss : List Sl) : Option (List D) → Ro (Sl × List Sl)
  | some ds => if ds.length ≤ sizeLine then .ok (if own then .ow .o1 (f ds) else .fz (f ds), ss) else .stuck
  | none => .stuck
theorem e_tup {ft : FA} : fTup ft ss = (ft ss).bind fun p => kd1 .tup false p.2 (frzL p.1) := rfl
theorem e_lst {ft : FA} : fLst ft ss = (ft ss).bind fun p => kd1 .lst true p.2 (frzL p.1) := rfl
theorem e_kdt {f : List D → D} {ds : List D} : kd1 f false ss (some ds) = if ds.length ≤ sizeLine then .ok (.fz (f ds), ss) else .stuck := rfl
theorem e_kdl {f : List D → D} {ds : List D} : kd1 f true ss (some ds) = if ds.length ≤ sizeLine then .ok (.ow .o1 (f ds), ss) else .stuck := rfl
theorem sz_of {n : Nat} (h : n < 1000) : n ≤ sizeLine := by unfold sizeLine; omega
theorem sy_of {n : Nat} (h : n < 1000) : n < sizeLine := by unfold sizeLine; omega
theorem sy0 : 0 < sizeLine := sy_of (by decide)
theorem sy1 : 1 < sizeLine := sy_of (by decide)
theorem sy2 : 2 < sizeLine := sy_of (by decide)
theorem sy3 : 3 < sizeLine := sy_of (by decide)
theorem sy4 : 4 < sizeLine := sy_of (by decide)
theorem sy5 : 5 < sizeLine := sy_of (by decide)
theorem sy6 : 6 < sizeLine := sy_of (by decide)
theorem sy7 : 7 < sizeLine := sy_of (by decide)
theorem sy8 : 8 < sizeLine := sy_of (by decide)
theorem sy9 : 9 < sizeLine := sy_of (by decide)
theorem sy10 : 10 < sizeLine := sy_of (by decide)
theorem sy11 : 11 < sizeLine := sy_of (by decide)
theorem sy12 : 12 < sizeLine := sy_of (by decide)
theorem sy13 : 13 < sizeLine := sy_of (by decide)
theorem sy14 : 14 < sizeLine := sy_of (by decide)
theorem sy15 : 15 < sizeLine := sy_of (by decide)
theorem sz0 : 0 ≤ sizeLine := Nat.zero_le _
theorem sz1 : 1 ≤ sizeLine := sz_of (by decide)
theorem sz2 : 2 ≤ sizeLine := sz_of (by decide)
theorem sz3 : 3 ≤ sizeLine := sz_of (by decide)
theorem sz4 : 4 ≤ sizeLine := sz_of (by decide)
theorem sz5 : 5 ≤ sizeLine := sz_of (by decide)
theorem sz6 : 6 ≤ sizeLine := sz_of (by decide)
theorem sz7 : 7 ≤ sizeLine := sz_of (by decide)
theorem sz8 : 8 ≤ sizeLine := sz_of (by decide)
theorem sz9 : 9 ≤ sizeLine := sz_of (by decide)
theorem sz10 : 10 ≤ sizeLine := sz_of (by decide)
theorem sz11 : 11 ≤ sizeLine := sz_of (by decide)
theorem sz12 : 12 ≤ sizeLine := sz_of (by decide)
theorem sz13 : 13 ≤ sizeLine := sz_of (by decide)
theorem sz14 : 14 ≤ sizeLine := sz_of (by decide)
theorem sz15 : 15 ≤ sizeLine := sz_of (by decide)
def kt1 (ss : List Sl) : Option Bool → Ro (Bool × List Sl)
  | some b => .ok (b, ss)
  | none => .stuck
theorem e_test {fa : FE} : fTest fa ss = (fa ss).bind fun p => kt1 p.2 ((p.1.val p.2).bind fun x => blD x.2) := by
  unfold fTest ktest kt1; rfl
theorem e_trv {fa : FE} : fTrv fa ss = (fa ss).bind fun p => kt1 p.2 ((p.1.val p.2).bind fun x => truD x.2) := by
  unfold fTrv ktest kt1; rfl
theorem e_kt {b : Bool} : kt1 ss (some b) = .ok (b, ss) := rfl
theorem e_bl {b : Bool} : blD (.bl b) = some b := rfl
theorem e_tb {b : Bool} : truD (.bl b) = some b := rfl
theorem e_ti : truD (.int x) = some (x != 0) := rfl
theorem e_tn : truD .non = some false := rfl
theorem e_tl {ds : List D} : truD (.lst ds) = some !ds.isEmpty := rfl
theorem e_tt {ds : List D} : truD (.tup ds) = some !ds.isEmpty := rfl
def cAnd (fb : FT) (p : Bool × List Sl) : Ro (Bool × List Sl) := if p.1 = true then fb p.2 else .ok (false, p.2)
def cOr (fb : FT) (p : Bool × List Sl) : Ro (Bool × List Sl) := if p.1 = true then .ok (true, p.2) else fb p.2
def cIf (fa fb : FE) (p : Bool × List Sl) : Ro (Sl × List Sl) := if p.1 = true then fa p.2 else fb p.2
theorem e_and {fa fb : FT} : fAnd fa fb ss = (fa ss).bind (cAnd fb) := rfl
theorem e_cand {fb : FT} {b : Bool} : cAnd fb (b, ss) = if b = true then fb ss else .ok (false, ss) := rfl
theorem e_cor {fb : FT} {b : Bool} : cOr fb (b, ss) = if b = true then .ok (true, ss) else fb ss := rfl
theorem e_cif {fa fb : FE} {b : Bool} : cIf fa fb (b, ss) = if b = true then fa ss else fb ss := rfl
theorem e_or {fa fb : FT} : fOr fa fb ss = (fa ss).bind (cOr fb) := rfl
theorem e_not {fa : FT} : fNot fa ss = (fa ss).bind fun p => .ok (!p.1, p.2) := rfl
theorem e_if {ft : FT} {fa fb : FE} : fIf ft fa fb ss = (ft ss).bind (cIf fa fb) := rfl
theorem e_yes : fYes ss = .ok (true, ss) := rfl
def av1 (fb : FE) (p : Sl × List Sl) : Option Bool → Ro (Sl × List Sl)
  | some true => fb p.2
  | some false => .ok p
  | none => .stuck
def cAndV (fb : FE) (p : Sl × List Sl) : Ro (Sl × List Sl) := av1 fb p (ktru p.1 p.2)
theorem e_andV {fa fb : FE} : fAndV fa fb ss = (fa ss).bind (cAndV fb) := by unfold fAndV cAndV av1; rfl
theorem e_candV {fb : FE} : cAndV fb (r, ss) = av1 fb (r, ss) (ktru r ss) := rfl
theorem e_ktru {a : Sl} : ktru a ss = (a.val ss).bind fun x => truD x.2 := rfl
theorem e_avt {fb : FE} {p : Sl × List Sl} : av1 fb p (some true) = fb p.2 := rfl
theorem e_avf {fb : FE} {p : Sl × List Sl} : av1 fb p (some false) = .ok p := rfl
theorem e_add : opAdd t (.int x) u (.int y) = some (.fz (.int (x + y))) := rfl
theorem e_addL {xs ys : List D} : opAdd t (.lst xs) u (.lst ys) = if (t.flat && u.flat) = true ∧ xs.length + ys.length ≤ sizeLine then some (.ow .o1 (.lst (xs ++ ys))) else none := rfl
theorem e_sub : opSub t (.int x) u (.int y) = some (.fz (.int (x - y))) := rfl
theorem e_mul : opMul t (.int x) u (.int y) = if CMulW x y then some (.fz (.int (x * y))) else none := rfl
theorem e_fdiv : opFdiv t (.int x) u (.int y) = if CDivZ x y then some (.fz (.int (x.fdiv y))) else none := by
  by_cases h : CDivZ x y
  · rw [if_pos h]; exact congrArg (Option.map Sl.fz) (whenD_pos h)
  · rw [if_neg h]; exact congrArg (Option.map Sl.fz) (if_neg h)
theorem e_mod : opMod t (.int x) u (.int y) = if y = 0 then none else some (.fz (.int (x.fmod y))) := by
  by_cases h : y = 0
  · rw [if_pos h]; exact congrArg (Option.map Sl.fz) (if_neg (fun z => z h))
  · rw [if_neg h]; exact congrArg (Option.map Sl.fz) (whenD_pos h)
theorem e_pow : opPow t (.int x) u (.int y) = if CPow x y then some (.fz (.int (x ^ y.toNat))) else none := by
  by_cases h : CPow x y
  · rw [if_pos h]; exact congrArg (Option.map Sl.fz) (whenD_pos h)
  · rw [if_neg h]; exact congrArg (Option.map Sl.fz) (if_neg h)
theorem e_lt : opLt t (.int x) u (.int y) = some (.fz (.bl (decide (x < y)))) := rfl
theorem e_gt : opGt t (.int x) u (.int y) = some (.fz (.bl (decide (y < x)))) := rfl
theorem e_ge : opGe t (.int x) u (.int y) = some (.fz (.bl (decide (y ≤ x)))) := rfl
theorem e_opNot : opNot t d = (truD d).map fun b => .fz (.bl (!b)) := rfl
theorem e_abs : opAbs [(t, .int x)] = some (.fz (.int (x.natAbs : Nat))) := rfl
theorem e_lenL {ds : List D} : opLen [(t, .lst ds)] = some (.fz (.int (ds.length : Nat))) := rfl
theorem e_lenT {ds : List D} : opLen [(t, .tup ds)] = some (.fz (.int (ds.length : Nat))) := rfl
theorem e_list {ds : List D} : opList [(t, .lst ds)] = if t.flat = true then some (.ow .o1 (.lst ds)) else none := rfl
theorem e_listT {ds : List D} : opList [(t, .tup ds)] = if t.flat = true then some (.ow .o1 (.lst ds)) else none := rfl
theorem e_tupL {ds : List D} : opTupOf [(t, .lst ds)] = if t.flat = true then some (.fz (.tup ds)) else none := rfl
theorem e_tupT {ds : List D} : opTupOf [(.fz, .tup ds)] = some (.fz (.tup ds)) := rfl
theorem e_eq : opEq t d u d' = (eqD d d').map fun b => .fz (.bl b) := rfl
theorem e_ne : opNe t d u d' = (eqD d d').map fun b => .fz (.bl (!b)) := rfl
theorem e_eqI : eqD (.int x) (.int y) = some (decide (x = y)) := rfl
theorem e_eqS {x y : Str} : eqD (.str x) (.str y) = some (decide (x = y)) := rfl
theorem e_isN : opIs t d u .non = some (.fz (.bl (isNonD d))) := rfl
theorem e_ixL {ds : List D} : opIx t (.lst ds) u (.int x) = (atI ds x).bind (partSl t) := rfl
theorem e_ixT {ds : List D} : opIx t (.tup ds) u (.int x) = (atI ds x).bind (partSl t) := rfl
theorem e_ixD {kvs : List (Key × D)} : opIx t (.dk kvs) u d = d.key?.bind fun k => (getK kvs k).bind (partSl t) := rfl
theorem e_keyI : D.key? (.int x) = some (.inl x) := rfl
theorem e_keyS {x : Str} : D.key? (.str x) = some (.inr x) := rfl
theorem e_partZ : partSl .fz d = some (.fz d) := rfl
theorem e_partO : partSl .o1 d = some (.fz d) := rfl
theorem e_flZ : Tg.flat .fz = true := rfl
theorem e_flO : Tg.flat .o1 = true := rfl
def cSl3 (a : Sl) (lo : Option Int) (u : Option Int × List Sl) : Ro (Sl × List Sl) := ksl a lo u.1 u.2
def cSl2 (a : Sl) (fh : FO) (l : Option Int × List Sl) : Ro (Sl × List Sl) := (fh l.2).bind (cSl3 a l.1)
def cSl1 (fl fh : FO) (p : Sl × List Sl) : Ro (Sl × List Sl) := (fl p.2).bind (cSl2 p.1 fh)
theorem e_sl {fa : FE} {fl fh : FO} : fSl fa fl fh ss = (fa ss).bind (cSl1 fl fh) := rfl
theorem e_csl1 {fl fh : FO} : cSl1 fl fh (r, ss) = (fl ss).bind (cSl2 r fh) := rfl
theorem e_csl2 {fh : FO} {lo : Option Int} : cSl2 r fh (lo, ss) = (fh ss).bind (cSl3 r lo) := rfl
theorem e_csl3 {lo hi : Option Int} : cSl3 r lo (hi, ss) = ksl r lo hi ss := rfl
theorem e_noP : fNoPart ss = .ok (none, ss) := rfl
theorem e_part {fa : FE} : fPart fa ss = (fa ss).bind fun p => kpart p.1 p.2 := rfl
theorem e_kpart : kpart (.fz (.int x)) ss = .ok (some x, ss) := rfl
theorem e_ksl {a : Sl} {lo hi : Option Int} : ksl a lo hi ss = orS ((a.val ss).bind fun x => opSl x.1 x.2 lo hi) ss := rfl
theorem e_slL {ds : List D} {lo hi : Option Int} : opSl t (.lst ds) lo hi = if t.flat = true then some (.ow .o1 (.lst (cutD ds lo hi))) else none := rfl
theorem e_slS {ns : List Int} {lo hi : Option Int} : opSl t (.scr ns) lo hi = some (.ow .o1 (.lst ((cutD ns lo hi).map .int))) := rfl
def cDisp (p : List Sl × List Sl) : Ro (Sl × List Sl) := kdispD p.1 p.2
theorem e_disp {ps : List (FE × FE)} : fDisp ps ss = (pairsF ps ss).bind cDisp := rfl
theorem e_cdisp : cDisp (rs, ss) = kdispD rs ss := rfl
theorem e_pairs0 : pairsF [] ss = .ok ([], ss) := rfl
def cPs3 (a b : Sl) (q : List Sl × List Sl) : Ro (List Sl × List Sl) := .ok (a :: b :: q.1, q.2)
def cPs2 (a : Sl) (ps : List (FE × FE)) (p : Sl × List Sl) : Ro (List Sl × List Sl) := (pairsF ps p.2).bind (cPs3 a p.1)
def cPs1 (fb : FE) (ps : List (FE × FE)) (p : Sl × List Sl) : Ro (List Sl × List Sl) := (fb p.2).bind (cPs2 p.1 ps)
theorem e_pairs1 {fa fb : FE} {ps : List (FE × FE)} : pairsF ((fa, fb) :: ps) ss = (fa ss).bind (cPs1 fb ps) := rfl
theorem e_cps1 {fb : FE} {ps : List (FE × FE)} : cPs1 fb ps (r, ss) = (fb ss).bind (cPs2 r ps) := rfl
theorem e_cps2 {a : Sl} {ps : List (FE × FE)} : cPs2 a ps (r, ss) = (pairsF ps ss).bind (cPs3 a r) := rfl
theorem e_cps3 {a b : Sl} : cPs3 a b (rs, ss) = .ok (a :: b :: rs, ss) := rfl
def kdD (ss : List Sl) : Option (List (Key × D)) → Ro (Sl × List Sl)
  | some kvs => if kvs.length ≤ 15 ∧ (kvs.map (·.1)).Nodup then .ok (.ow .o1 (.dk kvs), ss) else .stuck
  | none => .stuck
theorem e_kdispD : kdispD rs ss = kdD ss ((frzL rs).bind Mi.kvsOf) := by unfold kdispD kdD; rfl
theorem e_kdD {kvs : List (Key × D)} : kdD ss (some kvs) = if kvs.length ≤ 15 ∧ (kvs.map (·.1)).Nodup then .ok (.ow .o1 (.dk kvs), ss) else .stuck := rfl
theorem e_kv0 : Mi.kvsOf [] = some [] := rfl
theorem e_kv1 {k : D} {ds : List D} : Mi.kvsOf (k :: d :: ds) = (k.key?).bind fun k => (Mi.kvsOf ds).bind fun kvs => some ((k, d) :: kvs) := rfl
theorem e_isiT {cls : List Str} {x : D} {n : String} : opIsi cls [(t, x), (u, .ty n)] = (kindD x).bind fun k => (isiOne cls k (.ty n)).map fun b => .fz (.bl b) := rfl
theorem e_isiO {cls : List Str} {x : D} {n : Str} : opIsi cls [(t, x), (u, .obj n)] = (kindD x).bind fun k => (isiOne cls k (.obj n)).map fun b => .fz (.bl b) := rfl
theorem e_kdN : kindD .non = some (.inl .non) := rfl
theorem e_kdB {b : Bool} : kindD (.bl b) = some (.inl .bool) := rfl
theorem e_kdI : kindD (.int x) = some (.inl .int) := rfl
theorem e_kdS {x : Str} : kindD (.str x) = some (.inl .str) := rfl
theorem e_kdT {ds : List D} : kindD (.tup ds) = some (.inl .tuple) := rfl
theorem e_kdL {ds : List D} : kindD (.lst ds) = some (.inl .list) := rfl
theorem e_kdK {ds : List (Key × D)} : kindD (.dk ds) = some (.inl .dict) := rfl
theorem e_kdX {fs : List (Str × D)} : kindD (.ins c fs) = some (.inr c) := rfl
theorem e_is1 {cls : List Str} {b : Bt} {n : String} : isiOne cls (.inl b) (.ty n) = (Bt.of n).map fun e => b.isi e := rfl
theorem e_is2 {cls : List Str} {b : Bt} {c : Str} : isiOne cls (.inl b) (.obj c) = if c ∈ cls then some false else none := rfl
theorem e_is3 {cls : List Str} {n : String} : isiOne cls (.inr c) (.ty n) = if c ∈ cls then (Bt.of n).map fun _ => false else none := rfl
theorem e_is4 {cls : List Str} {e : Str} : isiOne cls (.inr c) (.obj e) = if c ∈ cls ∧ e ∈ cls then some (decide (c = e)) else none := rfl
theorem e_bint : Bt.of "int" = some .int := rfl
theorem e_bbool : Bt.of "bool" = some .bool := rfl
theorem e_bstr : Bt.of "str" = some .str := rfl
theorem e_btup : Bt.of "tuple" = some .tuple := rfl
theorem e_blst : Bt.of "list" = some .list := rfl
theorem e_bdic : Bt.of "dict" = some .dict := rfl
theorem e_fld {cs : List Str} {f : Str} {fs : List (Str × D)} : opFld cs f t (.ins c fs) = if c ∈ cs then (fs.lookup f).bind (partSl t) else none := rfl
def cSf2 (cs : List Str) (f : Str) (x : Sl) (q : Sl × List Sl) : So := ksfld cs f x q.1 q.2
def cSf1 (cs : List Str) (f : Str) (fo : FE) (p : Sl × List Sl) : So := (fo p.2).so (cSf2 cs f p.1)
theorem e_sfld {cs : List Str} {f : Str} {fo fe : FE} : fSFld cs f fo fe ss = (fe ss).so (cSf1 cs f fo) := rfl
theorem e_csf1 {cs : List Str} {f : Str} {fo : FE} : cSf1 cs f fo (r, ss) = (fo ss).so (cSf2 cs f r) := rfl
theorem e_csf2 {cs : List Str} {f : Str} {x : Sl} : cSf2 cs f x (r, ss) = ksfld cs f x r ss := rfl
def ksf1 (cs : List Str) (f : Str) (i : Nat) (ss : List Sl) : Option (List D) → Option Sl → So
  | some [d], some (.ow .o1 (.ins c fs)) => if c ∈ cs ∧ fs.length < 1000 then .nx (ss.set i (.ow .o1 (.ins c (putFD f d fs)))) else .stuck
  | _, _ => .stuck
theorem e_ksfld {cs : List Str} {f : Str} {x : Sl} : ksfld cs f x (.al i) ss = ksf1 cs f i ss (frzL [x]) ss[i]? := by
  unfold ksfld
  dsimp only
  cases h1 : ss[i]? with
  | none => cases h2 : frzL [x] <;> simp only [ksf1]
  | some e =>
    cases e with
    | ow t d =>
      cases t with
      | o1 =>
        cases d with
        | ins c fs =>
          cases h2 : frzL [x] with
          | none => rfl
          | some l =>
            match l with
            | [] => rfl
            | [d] => rfl
            | _ :: _ :: _ => rfl
        | _ => cases h2 : frzL [x] <;> simp only [ksf1]
      | _ => cases h2 : frzL [x] <;> simp only [ksf1]
    | _ => cases h2 : frzL [x] <;> simp only [ksf1]
theorem e_ksf {cs : List Str} {f : Str} {fs : List (Str × D)} : ksf1 cs f i ss (some [d]) (some (.ow .o1 (.ins c fs))) = if c ∈ cs ∧ fs.length < 1000 then .nx (ss.set i (.ow .o1 (.ins c (putFD f d fs)))) else .stuck := rfl
theorem e_put0 {f : Str} : putFD f d [] = [(f, d)] := rfl
theorem e_put1 {f g : Str} {e : D} {fs : List (Str × D)} : putFD f d ((g, e) :: fs) = if g = f then (g, d) :: fs else (g, e) :: putFD f d fs := rfl
def cSt2 (x : D) (a : Sl) (q : Sl × List Sl) : So := kst x a q.1 q.2
def cSt1 (x : D) (fk : FE) (p : Sl × List Sl) : So := (fk p.2).so (cSt2 x p.1)
def gS1 (fo fk : FE) (ss : List Sl) : Option (List D) → So
  | some [x] => (fo ss).so (cSt1 x fk)
  | _ => .stuck
theorem e_gSub {fo fk : FE} : gSubF fo fk r ss = gS1 fo fk ss (frzL [r]) := by unfold gSubF gS1; rfl
theorem e_gS1 {fo fk : FE} : gS1 fo fk ss (some [d]) = (fo ss).so (cSt1 d fk) := rfl
theorem e_cst1 {fk : FE} : cSt1 d fk (r, ss) = (fk ss).so (cSt2 d r) := rfl
theorem e_cst2 {a : Sl} : cSt2 d a (r, ss) = kst d a r ss := rfl
def kst1 (i : Nat) (x : D) (k : Option (Tg × D)) (ss : List Sl) : Option Sl → So
  | some (.ow .o1 d) => match k.bind fun kk => stD .o1 d kk.2 x with
    | some d' => .nx (ss.set i (.ow .o1 d'))
    | none => .stuck
  | _ => .stuck
def kst2 (i : Nat) (ss : List Sl) : Option D → So
  | some d' => .nx (ss.set i (.ow .o1 d'))
  | none => .stuck
theorem e_kst {ri : Sl} : kst d (.al i) ri ss = kst1 i d (ri.val ss) ss ss[i]? := by
  unfold kst
  dsimp only
  cases h1 : ss[i]? with
  | none => rfl
  | some e =>
    cases e with
    | ow t d => cases t <;> rfl
    | _ => rfl
theorem e_kst1 {k : Option (Tg × D)} : kst1 i d k ss (some (.ow .o1 d')) = kst2 i ss (k.bind fun kk => stD .o1 d' kk.2 d) := rfl
theorem e_kst2 : kst2 i ss (some d) = .nx (ss.set i (.ow .o1 d)) := rfl
theorem e_stD {kvs : List (Key × D)} {k : D} : stD t (.dk kvs) k d = (k.key?).bind fun k => if kvs.length < sizeLine then some (.dk (putD kvs k d)) else none := rfl
def cCall (m : Fm) (dvs : List D) (p : List Sl × List Sl) : Ro (Sl × List Sl) := kcall m (p.1 ++ dvs.map .fz) p.2
theorem e_call {m : Fm} {dvs : List D} {ft : FA} : fCall m dvs ft ss = (ft ss).bind (cCall m dvs) := rfl
theorem e_ccall {m : Fm} {dvs : List D} : cCall m dvs (rs, ss) = kcall m (rs ++ dvs.map .fz) ss := rfl
def kc2 (rs as s1 : List Sl) : Fo → Ro (Sl × List Sl)
  | .ret r as' => if noAl as' = true then (match resOf rs as' r with
      | some r' => .ok (r', back rs as as' s1)
      | none => .stuck) else .stuck
  | .exc c fs as' => if noAl as' = true then .exc c fs (back rs as as' s1) else .stuck
  | .stuck => .stuck
def kc1 (m : Fm) (rs : List Sl) : Option (List Sl × List Sl) → Ro (Sl × List Sl)
  | none => .stuck
  | some q => kc2 rs q.1 q.2 (m q.1)
def kc3 (s1 : List Sl) : Option Sl → Ro (Sl × List Sl)
  | some r' => .ok (r', s1)
  | none => .stuck
theorem e_kcall {m : Fm} : kcall m rs ss = kc1 m rs (lend rs ss) := by
  unfold kcall kc1 kc2
  cases lend rs ss with
  | none => rfl
  | some q => cases h : m q.1 <;> simp only [h] <;> rfl
theorem e_kc1 {m : Fm} : kc1 m rs (some (as, s1)) = kc2 rs as s1 (m as) := rfl
theorem e_kc2 {as' : List Sl} : kc2 rs as s1 (.ret r as') = if noAl as' = true then kc3 (back rs as as' s1) (resOf rs as' r) else .stuck := by
  unfold kc2 kc3
  dsimp only
theorem e_kc2e {as' : List Sl} : kc2 rs as s1 (.exc c fs as') = if noAl as' = true then .exc c fs (back rs as as' s1) else .stuck := rfl
theorem e_kc2s : kc2 rs as s1 .stuck = .stuck := rfl
theorem e_kc3 : kc3 s1 (some r) = .ok (r, s1) := rfl
theorem e_le0 : lend [] ss = some ([], ss) := rfl
theorem e_lef : lend (.fz d :: rs) ss = (lend rs ss).map fun p => (.fz d :: p.1, p.2) := rfl
theorem e_leo : lend (.ow t d :: rs) ss = (lend rs ss).map fun p => (.ow t d :: p.1, p.2) := rfl
def le1 (i : Nat) (rs ss : List Sl) : Option Sl → Option (List Sl × List Sl)
  | some (.ow t d) => (lend rs (ss.set i .un)).map fun p => (.ow t d :: p.1, p.2)
  | some (.fz d) => (lend rs ss).map fun p => (.fz d :: p.1, p.2)
  | _ => none
theorem e_lea : lend (.al i :: rs) ss = le1 i rs ss ss[i]? := by
  rw [lend]; unfold le1; rfl
theorem e_leao : le1 i rs ss (some (.ow t d)) = (lend rs (ss.set i .un)).map fun p => (.ow t d :: p.1, p.2) := rfl
theorem e_leaf : le1 i rs ss (some (.fz d)) = (lend rs ss).map fun p => (.fz d :: p.1, p.2) := rfl
theorem e_ba0 : back [] [] [] ss = ss := rfl
theorem e_ba1 : back [] [] (r :: as) ss = ss := rfl
theorem e_baf {l : List Sl} {a b : Sl} : back (.fz d :: rs) (a :: l) (b :: as) ss = back rs l as ss := by cases a <;> cases b <;> rfl
theorem e_bao {l : List Sl} {a b : Sl} : back (.ow t d :: rs) (a :: l) (b :: as) ss = back rs l as ss := by cases a <;> cases b <;> rfl
theorem e_baa {l : List Sl} {u' : Tg} : back (.al i :: rs) (.ow t d :: l) (.ow u' d' :: as) ss = back rs l as (ss.set i (.ow u' d')) := rfl
theorem e_baz {l : List Sl} : back (.al i :: rs) (.ow t d :: l) (.fz d' :: as) ss = back rs l as (ss.set i (.fz d')) := rfl
theorem e_bau {l : List Sl} : back (.al i :: rs) (.ow t d :: l) (.un :: as) ss = back rs l as ss := rfl
theorem e_bag {l : List Sl} {b : Sl} : back (.al i :: rs) (.fz d :: l) (b :: as) ss = back rs l as ss := by cases b <;> rfl
theorem e_ref : resOf rs as (.fz d) = some (.fz d) := rfl
theorem e_reo : resOf rs as (.ow t d) = some (.ow t d) := rfl
theorem e_reu : resOf rs as .un = none := rfl
def re1 : Option Sl → Option Sl → Option Sl
  | some (.al i), some (.ow _ _) => some (.al i)
  | some (.al i), some (.fz _) => some (.al i)
  | _, _ => none
theorem e_rea : resOf rs as (.al k) = re1 rs[k]? as[k]? := by unfold resOf re1; rfl
theorem e_reao : re1 (some (.al i)) (some (.ow t d)) = some (.al i) := rfl
theorem e_reaf : re1 (some (.al i)) (some (.fz d)) = some (.al i) := rfl
theorem e_na0 : noAl [] = true := rfl
theorem e_naf : noAl (.fz d :: rs) = noAl rs := rfl
theorem e_nao : noAl (.ow t d :: rs) = noAl rs := rfl
theorem e_nau : noAl (.un :: rs) = noAl rs := rfl
def cMeth2 (m : Fm) (dds : List D) (a : Sl) (q : List Sl × List Sl) : Ro (Sl × List Sl) := kcall m (a :: (q.1 ++ dds.map .fz)) q.2
def cMeth (c name : Str) (m : Fm) (dds : List D) (ft : FA) (p : Sl × List Sl) : Ro (Sl × List Sl) := if kmeth c name p.1 p.2 = true then (ft p.2).bind (cMeth2 m dds p.1) else .stuck
theorem e_meth {c name : Str} {m : Fm} {dds : List D} {fo : FE} {ft : FA} : fMeth c name m dds fo ft ss = (fo ss).bind (cMeth c name m dds ft) := rfl
theorem e_cmeth {c name : Str} {m : Fm} {dds : List D} {ft : FA} : cMeth c name m dds ft (r, ss) = if kmeth c name r ss = true then (ft ss).bind (cMeth2 m dds r) else .stuck := rfl
theorem e_cmeth2 {m : Fm} {dds : List D} {a : Sl} : cMeth2 m dds a (rs, ss) = kcall m (a :: (rs ++ dds.map .fz)) ss := rfl
def km1 (c name : Str) : Option (Tg × D) → Bool
  | some (_, .ins c' fs) => decide (c' = c) && (fs.lookup name).isNone
  | _ => false
theorem e_kmeth {c name : Str} : kmeth c name r ss = km1 c name (r.val ss) := by unfold kmeth km1; rfl
theorem e_km1 {c c' name : Str} {fs : List (Str × D)} : km1 c name (some (t, .ins c' fs)) = (decide (c' = c) && (fs.lookup name).isNone) := rfl
def cMake (c : Str) (tg : Tg) (m : Fm) (dds : List D) (p : List Sl × List Sl) : Ro (Sl × List Sl) := kcall (mkM m) (.ow tg (.ins c []) :: (p.1 ++ dds.map .fz)) p.2
theorem e_make {c : Str} {tg : Tg} {m : Fm} {dds : List D} {ft : FA} : fMake c tg m dds ft ss = (ft ss).bind (cMake c tg m dds) := rfl
theorem e_cmake {c : Str} {tg : Tg} {m : Fm} {dds : List D} : cMake c tg m dds (rs, ss) = kcall (mkM m) (.ow tg (.ins c []) :: (rs ++ dds.map .fz)) ss := rfl
def mk1 : Fo → Fo
  | .ret (.fz .non) (.ow t d :: as') => .ret (.ow t d) (.un :: as')
  | .exc c fs as' => .exc c fs as'
  | _ => .stuck
theorem e_mkM {m : Fm} : mkM m as = mk1 (m as) := rfl
theorem e_mk1 : mk1 (.ret (.fz .non) (.ow t d :: as)) = .ret (.ow t d) (.un :: as) := rfl
theorem e_mk1e : mk1 (.exc c fs as) = .exc c fs as := rfl
def cComp (g : FG) (ft : FT) (fe : FE) (n : Nat) (vs : List Nat) (p : List D × List Sl) : Ro (Sl × List Sl) := kcomp g ft fe n vs p.1 p.2
theorem e_comp {fi : FI} {g : FG} {ft : FT} {fe : FE} {vs : List Nat} : fComp fi g ft fe n vs ss = (fi ss).bind (cComp g ft fe n vs) := rfl
theorem e_ccomp {g : FG} {ft : FT} {fe : FE} {vs : List Nat} {ds : List D} : cComp g ft fe n vs (ds, ss) = kcomp g ft fe n vs ds ss := rfl
def cRest (s0 : List Sl) (vs : List Nat) (q : List D × List Sl) : Ro (Sl × List Sl) := .ok (.ow .o1 (.lst q.1), restS s0 q.2 vs)
theorem e_crest {s0 : List Sl} {vs : List Nat} {ds : List D} : cRest s0 vs (ds, ss) = .ok (.ow .o1 (.lst ds), restS s0 ss vs) := rfl
theorem e_kcomp {g : FG} {ft : FT} {fe : FE} {vs : List Nat} {ds : List D} : kcomp g ft fe n vs ds ss = if okW n vs ss = true then (compD g ft fe vs ds [] (wipeS ss vs)).bind (cRest ss vs) else .stuck := rfl
theorem e_cD0 {g : FG} {ft : FT} {fe : FE} {vs : List Nat} {acc : List D} : compD g ft fe vs [] acc ss = .ok (acc, ss) := rfl
def cD2 (k : List D → List Sl → Ro (List D × List Sl)) (acc : List D) (vs : List Nat) (p : Sl × List Sl) : Ro (List D × List Sl) := match p.1 with
  | .fz e => if acc.length < sizeLine then k (acc ++ [e]) (wipeS p.2 vs) else .stuck
  | _ => .stuck
def cD3 (fe : FE) (k : List D → List Sl → Ro (List D × List Sl)) (acc : List D) (vs : List Nat) (b : Bool × List Sl) : Ro (List D × List Sl) := if b.1 = true then ((ffrz fe b.2).nox.bind (cD2 k acc vs)) else k acc (wipeS b.2 vs)
def cD1 (ft : FT) (fe : FE) (k : List D → List Sl → Ro (List D × List Sl)) (acc : List D) (vs : List Nat) : So → Ro (List D × List Sl)
  | .nx s1 => (ft s1).nox.bind (cD3 fe k acc vs)
  | _ => .stuck
theorem e_cD1 {g : FG} {ft : FT} {fe : FE} {vs : List Nat} {acc ds : List D} : compD g ft fe vs (d :: ds) acc ss = cD1 ft fe (compD g ft fe vs ds) acc vs (g (.fz d) ss) := by
  rw [compD]
  unfold cD1 cD3 cD2
  cases g (.fz d) ss <;> rfl
theorem e_cDn {ft : FT} {fe : FE} {k : List D → List Sl → Ro (List D × List Sl)} {vs : List Nat} {acc : List D} : cD1 ft fe k acc vs (.nx ss) = (ft ss).nox.bind (cD3 fe k acc vs) := rfl
theorem e_cD3 {fe : FE} {k : List D → List Sl → Ro (List D × List Sl)} {vs : List Nat} {acc : List D} {b : Bool} : cD3 fe k acc vs (b, ss) = if b = true then ((ffrz fe ss).nox.bind (cD2 k acc vs)) else k acc (wipeS ss vs) := rfl
theorem e_cD2 {k : List D → List Sl → Ro (List D × List Sl)} {vs : List Nat} {acc : List D} : cD2 k acc vs (.fz d, ss) = if acc.length < sizeLine then k (acc ++ [d]) (wipeS ss vs) else .stuck := rfl
theorem e_nox : (Ro.ok a).nox = .ok a := rfl
theorem e_wi0 : wipeS ss [] = ss := rfl
theorem e_wi1 {v : Nat} {vs : List Nat} : wipeS ss (v :: vs) = setS v .un (wipeS ss vs) := rfl
theorem e_rs0 {s0 : List Sl} : restS s0 ss [] = ss := rfl
theorem e_rs1 {s0 : List Sl} {v : Nat} {vs : List Nat} : restS s0 ss (v :: vs) = setS v ((s0[v]?).getD .un) (restS s0 ss vs) := rfl
def okW1 : Option Sl → Bool
  | some .un => true
  | some (.fz _) => true
  | _ => false
theorem e_okW {vs : List Nat} : okW n vs ss = (decide (ss.length = n) && vs.all fun v => okW1 ss[v]?) := by unfold okW okW1; rfl
theorem e_okWu : okW1 (some .un) = true := rfl
theorem e_okWf : okW1 (some (.fz d)) = true := rfl
theorem e_body {f : FS} : body n np kp f as = if as.length = np then finO kp np (f (as ++ List.replicate (n - np) .un)) else .stuck := rfl
theorem e_fin : finO kp np (.nx ss) = if np ≤ ss.length then .ret (.fz .non) (outs kp 0 (ss.take np)) else .stuck := rfl
theorem e_fir : finO kp np (.rt r ss) = if np ≤ ss.length then finR kp np r ss else .stuck := rfl
theorem e_fie : finO kp np (.exc c fs ss) = if np ≤ ss.length then .exc c fs (outs kp 0 (ss.take np)) else .stuck := rfl
theorem e_fis : finO kp np .stuck = .stuck := rfl
theorem e_frf : finR kp np (.fz d) ss = .ret (.fz d) (outs kp 0 (ss.take np)) := rfl
theorem e_fro : finR kp np (.ow t d) ss = .ret (.ow t d) (outs kp 0 (ss.take np)) := rfl
def fi1 (kp : List Nat) (np i : Nat) (ss : List Sl) : Option Sl → Fo
  | some (.fz d) => .ret (.fz d) (outs kp 0 (ss.take np))
  | some (.ow t d) => .ret (.ow t d) (outs kp 0 ((ss.set i .un).take np))
  | _ => .stuck
theorem e_fra : finR kp np (.al i) ss = if i < np ∧ i ∈ kp then .ret (.al i) (outs kp 0 (ss.take np)) else fi1 kp np i ss ss[i]? := by unfold finR fi1; rfl
theorem e_fif : fi1 kp np i ss (some (.fz d)) = .ret (.fz d) (outs kp 0 (ss.take np)) := rfl
theorem e_fio : fi1 kp np i ss (some (.ow t d)) = .ret (.ow t d) (outs kp 0 ((ss.set i .un).take np)) := rfl
theorem e_ou0 : outs kp i [] = [] := rfl
theorem e_ou1 : outs kp i (r :: rs) = r.out (decide (i ∈ kp)) :: outs kp (i + 1) rs := rfl
theorem e_ouf : (Sl.fz d).out true = .fz d := rfl
theorem e_ouo : (Sl.ow t d).out true = .ow t d := rfl
theorem e_ouu : Sl.un.out true = .un := rfl
theorem e_oua {b : Bool} : (Sl.al i).out b = .un := rfl
theorem e_oug : r.out false = .un := by cases r <;> rfl
end
end Mi
namespace Mi
open PySem PySem.Spec PyProof.Rows L2 Rt
noncomputable def cWh (ft : FT) (f : FS) (p : Bool × List Sl) : So := if p.1 = true then (f p.2).loop (fWhile ft f) else .nx p.2
theorem e_while {ft : FT} {f : FS} {ss : List Sl} : fWhile ft f ss = (ft ss).so (cWh ft f) := fWhile_eq ft f ss
theorem e_cwh {ft : FT} {f : FS} {ss : List Sl} {b : Bool} : cWh ft f (b, ss) = if b = true then (f ss).loop (fWhile ft f) else .nx ss := rfl
/-- a walk whose turns all go on -/
theorem for_go {g : FG} {f : FS} (I : Nat → List Sl → Prop) : ∀ {ds : List D} {k : Nat} {ss : List Sl}, I k ss → (∀ i d ss, ds[i]? = some d → I (k + i) ss → ∃ s1 s', g (.fz d) ss = .nx s1 ∧ (f s1 = .nx s' ∨ f s1 = .ct s') ∧ I (k + i + 1) s') →
    ∃ s', forD g f ds ss = .nx s' ∧ I (k + ds.length) s'
  | [], _, ss, h, _ => ⟨ss, rfl, h⟩
  | d :: ds, k, ss, h, st => by
    obtain ⟨s1, s', h1, h2, h3⟩ := st 0 d ss rfl h
    have e : forD g f (d :: ds) ss = forD g f ds s' := by
      rw [e_for1, h1]
      show (f s1).loop _ = _
      rcases h2 with h2 | h2 <;> rw [h2] <;> rfl
    obtain ⟨s2, h4, h5⟩ := for_go (g := g) (f := f) I (ds := ds) (k := k + 1) (ss := s') h3 (fun i d ss q z => by
      have := st (i + 1) d ss (by simpa using q) (by rw [← Nat.add_assoc, Nat.add_right_comm]; exact z)
      rw [← Nat.add_assoc, Nat.add_right_comm k i 1] at this
      exact this)
    refine ⟨s2, e.trans h4, ?_⟩
    rw [List.length_cons, ← Nat.add_assoc, Nat.add_right_comm]
    exact h5
theorem for_range {g : FG} {f : FS} (I : Nat → List Sl → Prop) {lo : Int} {n : Nat} {ss : List Sl} (h : I 0 ss) (st : ∀ i ss, i < n → I i ss → ∃ s1 s', g (.fz (.int (lo + (i : Nat)))) ss = .nx s1 ∧ (f s1 = .nx s' ∨ f s1 = .ct s') ∧ I (i + 1) s') :
    ∃ s', forD g f (rangeD lo n) ss = .nx s' ∧ I n s' := by
  obtain ⟨s', h1, h2⟩ := for_go (g := g) (f := f) I (ds := rangeD lo n) (k := 0) (ss := ss) h (fun i d ss q z => by
    have hi : i < n := by
      have := (List.getElem?_eq_some_iff.mp q).1
      rwa [rangeD_len] at this
    rw [rangeD_get q]
    rw [Nat.zero_add] at z ⊢
    exact st i ss hi z)
  rw [rangeD_len, Nat.zero_add] at h2
  exact ⟨s', h1, h2⟩
end Mi
namespace Mi
open PySem PySem.Spec PyProof.Rows L2 Rt
theorem ofString_inj {a b : String} (h : Str.ofString a = Str.ofString b) : a = b := by
  rw [Str.ofString_eq_toList, Str.ofString_eq_toList] at h
  have h1 : a.toList.map Char.toNat = b.toList.map Char.toNat := by
    have := congrArg (fun x : Str => x.cps.toList) h
    simpa using this
  have go : ∀ xs ys : List Char, xs.map Char.toNat = ys.map Char.toNat → xs = ys := by
    intro xs
    induction xs with
    | nil => intro ys e; cases ys with
      | nil => rfl
      | cons => cases e
    | cons x xs ih => intro ys e; cases ys with
      | nil => cases e
      | cons y ys =>
        simp only [List.map_cons, List.cons.injEq] at e
        have : x.val = y.val := UInt32.toNat_inj.mp e.1
        rw [Char.ext this, ih ys e.2]
  have h2 := go _ _ h1
  exact String.toList_inj.mp h2
theorem str_eq {a b : String} : (Str.ofString a = Str.ofString b) = (a = b) := propext ⟨ofString_inj, fun h => by rw [h]⟩
theorem str_beq {a b : String} : (Str.ofString a == Str.ofString b) = (a == b) := by
  by_cases h : a = b
  · subst h; simp
  · have h1 : (a == b) = false := by simpa using h
    have h2 : Str.ofString a ≠ Str.ofString b := fun z => h (ofString_inj z)
    rw [h1]
    simpa using h2
theorem e_getK0 {κ α : Type} [DecidableEq κ] {k : κ} : getK ([] : List (κ × α)) k = none := rfl
theorem e_getK1 {κ α : Type} [DecidableEq κ] {k k' : κ} {v : α} {r : List (κ × α)} : getK ((k', v) :: r) k = if k' = k then some v else getK r k := by
  unfold getK
  rw [List.find?_cons]
  by_cases h : k' = k
  · simp [h]
  · simp [h]
theorem e_putD {κ α : Type} [DecidableEq κ] {k : κ} {v : α} {r : List (κ × α)} : putD r k v = if (r.any fun kv => decide (kv.1 = k)) = true then r.map (fun kv => if kv.1 = k then (kv.1, v) else kv) else r ++ [(k, v)] := rfl
theorem e_atI0 {α : Type} {x : α} {r : List α} : atI (x :: r) 0 = some x := atI_nat (j := 0) rfl
theorem e_atI1 {α : Type} {x y : α} {r : List α} : atI (x :: y :: r) 1 = some y := atI_nat (j := 1) rfl
theorem e_atI2 {α : Type} {x y z : α} {r : List α} : atI (x :: y :: z :: r) 2 = some z := atI_nat (j := 2) rfl
theorem e_atI3 {α : Type} {x y z w : α} {r : List α} : atI (x :: y :: z :: w :: r) 3 = some w := atI_nat (j := 3) rfl
theorem gcd_turn {x m : Nat} {g : Nat} (hg : Nat.gcd x m = g) : Nat.gcd m (x % m) = g := by
  rw [← hg, Nat.gcd_comm x m, Nat.gcd_rec m x, Nat.gcd_comm]
theorem fmod_nat (x m : Nat) : ((x : Int).fmod (m : Int)) = ((x % m : Nat) : Int) := by
  rw [Int.fmod_eq_emod_of_nonneg _ (by omega)]
  rfl
end Mi
namespace Mi
open PySem PySem.Spec PyProof.Rows L2 Rt
/-- one of Python's errors, as what stands above an own one -/
structure XBase (T nw ini : String) (tl : List Value) : Prop where
  base : ExcBaseFacts T nw ini tl
  store : StoreFacts T tl "object.__setattr__" "object"
/-- an own error's class: what the written part says of it -/
structure XCls (K : PySem.W.Frag) (nw : String) (tl : List Value) (C : Addr) : Prop where
  ini : PySem.W.excInitIn K C tl nw = true
  ov : PySem.W.excOver K C tl = true
  hd : PySem.W.hasDictIn K C = true
  sa : PySem.W.findIn K (.ref C) "__setattr__" = some (some (.builtin "object.__setattr__"))
  exC : PySem.W.subIn K (.ref C) (.type "BaseException") = some true
  tyC : PySem.W.typeIn K (.ref C) = some (.type "type")
  kC : PySem.W.keepIn K (.ref C) = true
theorem xcls_of {K : PySem.W.Frag} {nw : String} {tl : List Value} {C : Addr} (h : xclsB K nw tl C = true) : XCls K nw tl C := by
  unfold xclsB at h
  simp only [Bool.and_eq_true, decide_eq_true_eq] at h
  obtain ⟨h1, h2, h3, h4, h5, h6, h7⟩ := h
  exact ⟨h1, h2, h3, h4, h5, h6, h7⟩
section
variable {X : Cx} {pins : List (Addr × Obj)} {σ : L2.St} {H : Hp} {s : Shared} {a C : Addr} {f : Str} {y : V} {u : Value} {E : Value → Shared → Prop} {A : Around} {T nw ini : String} {tl : List Value}
end
end Mi
namespace Mi
open PySem PySem.Spec PyProof.Rows L2 Rt
section
variable {X : Cx} {pins : List (Addr × Obj)} {σ : L2.St} {H : Hp} {s : Shared} {a C : Addr} {f : Str} {y : V} {u : Value} {A : Around} {T nw ini : String} {tl : List Value}
theorem XCls.at_ {K : PySem.W.Frag} {h : Heap} (O : XCls K nw tl C) (k : K.In h) : ∃ nm N qn bs bm hdct sn sub ab col dd k0 k1 k2 k3 k5, h.get? C = some (excClassObj nm qn C N bs bm hdct sn sub ab col dd k0 k1 k2 k3 k5 nw) ∧ ∀ Y : String, bm.contains (.type Y) = tl.contains (.type Y) :=
  PySem.W.excInit_of k O.ini
end
section
variable {X : Cx} {T nw ini : String} {tl : List Value} {o e : Expr} {es : List Expr} {te to : TE} {ta : TA} {f x : Str} {p p' p1 p2 pos : Pos}
/-- T.__init__(self, ..) -/
def tIni (K : PySem.W.Frag) (nw : String) (tl : List Value) (ta : TA) : TE := fun σ H Q => ta σ H fun vs H1 => ∃ (a C : Addr) (ws : List V), vs = .ref a :: ws ∧ ws.length ≤ 1000 ∧ XCls K nw tl C ∧ H1 a = some (exo a C none) ∧ Q .non H1
/-- self.f = e -/
def tPut (K : PySem.W.Frag) (nw : String) (tl : List Value) (f : Str) (to te : TE) : TS := fun D σ H => te σ H fun y H1 => to σ H1 fun x H2 => ∃ a C : Addr, x = .ref a ∧ XCls K nw tl C ∧ PySem.W.takerIn K C f = some none ∧
  H2 a = some (exo a C none) ∧ ∀ dx, H2 dx = none → dx ≠ a → D.nx σ (upd (upd H2 dx (exd dx [(f, y)])) a (exo a C (some dx)))
/-- what the __init__ of an own error with the one field f does -/
def spIni (K : PySem.W.Frag) (nw : String) (tl : List Value) (C : Addr) (f : Str) : Sp := fun vs H Q _ => ∃ (a : Addr) (y : V), vs = [.ref a, y] ∧ XCls K nw tl C ∧ PySem.W.takerIn K C f = some none ∧ H a = some (exo a C none) ∧
  ∀ dx, H dx = none → dx ≠ a → Q .non (upd (upd H dx (exd dx [(f, y)])) a (exo a C (some dx)))
theorem len_ini {K : PySem.W.Frag} {C : Addr} {vs : List V} {H : Hp} {Q : VK} {E : XK} (h : spIni K nw tl C f vs H Q E) : vs.length = 2 := by
  obtain ⟨_, _, rfl, _⟩ := h
  rfl
/-- the usual body -/
theorem ini_body {K : PySem.W.Frag} {C : Addr} {vs : List V} {H : Hp} {Q : VK} {E : XK} {N : List Str} {m : Str} (hN : N.length = 2) (h : spIni K nw tl C f vs H Q E) :
    tSeq (tDrop (tIni K nw tl (tCons (tVar 0) (tCons (tC (.str m)) tNil)))) (tSeq (tPut K nw tl f (tVar 0) (tVar 1)) tNext) { nx := fun _ H' => Q .non H', rt := Q } (L2.start N vs) H := by
  obtain ⟨a, y, rfl, O, no, e, k⟩ := h
  have es : L2.start N [V.ref a, y] = [some (.ref a), some y] := by
    unfold L2.start
    rw [hN]
    rfl
  rw [es]
  refine ⟨.ref a, rfl, ?_⟩
  refine ⟨a, C, [.str m], rfl, by simp, O, e, ?_⟩
  refine ⟨y, rfl, ⟨.ref a, rfl, ?_⟩⟩
  exact ⟨a, C, rfl, O, no, e, fun dx n ne => k dx n ne⟩
end
end Mi
namespace Mi
open PySem PySem.Spec PyProof.Rows L2 Rt
section
variable {X : Cx} {T nw ini : String} {tl : List Value} {e : Expr} {es : List Expr} {ta : TA} {f x : Str} {p pos : Pos} {C fI : Addr} {k : Nat} {fd : FuncData} {ps : List Str}
def tMkX (C : Addr) (f : Str) (ta : TA) : L2.St → Hp → XK → Prop := fun σ H Q => ta σ H fun vs H1 => ∃ y, vs = [y] ∧ ∀ d, H1 d = none → Q (.ref C) (some d) (upd H1 d (.xd [(f, y)]))
end
def kraise (c f : Str) (r : Sl) (ss : List Sl) : So := match frzL [r] with
  | some [d] => .exc c [(f, d)] ss
  | _ => .stuck
def fRaise (c f : Str) (fe : FE) : FS := fun ss => (fe ss).so fun p => kraise c f p.1 p.2
section
variable {K : PySem.W.Frag} {E : EW} {kp : List Nat} {σ : L2.St} {H : Hp} {D : Ends}
/-- something new that is nobody's, frozen -/
theorem Sat.laid {Z : Hp} {es ts : List Ent} {p : Addr} {o : HO} (s : Sat K Z H es ts) (n : H p = none) (nt : ¬ isTbl o) : Sat K (upd Z p o) (upd H p o) es ts ∧ Step Z H (fpsOf (es ++ ts)) (upd Z p o) (upd H p o) (fpsOf (es ++ ts)) := by
  have zn : Z p = none := by
    cases q : Z p with
    | none => rfl
    | some u =>
      obtain ⟨w, e⟩ := s.sub.toSub.some q
      rw [n] at e; cases e
  have le : Le Z (upd Z p o) := fun a u e => by rw [upd_ne (ne_of_none e zn)]; exact e
  have w : New K Z H (upd Z p o) (upd H p o) .non (.fz .non) [] := ⟨⟨fun a u e _ => by rw [upd_ne (ne_of_none e n)]; exact .inl e, fun a m => (by cases m), le, fun a u e => by
      by_cases z : a = p
      · subst z; exact .inr (.inr n)
      · rw [upd_ne z] at e; exact .inl e⟩, ⟨⟨fun a u e nt' => by
      by_cases z : a = p
      · subst z
        rw [upd_same] at e; cases e
        exact .inl upd_same
      · rw [upd_ne z] at e
        rw [upd_ne z]
        exact s.sub.fz a u e nt', fun a m e => by
      by_cases z : a = p
      · subst z
        rw [upd_same] at e; cases e
        exact (nt trivial).elim
      · rw [upd_ne z] at e
        exact tabZ_mono (tabS_new (s.sub.tb a m e) n) le⟩, s.sub.tm.mono le⟩, ⟨.non, rfl, .leaf .non, rfl⟩, by simp, fun a m => by cases m⟩
  obtain ⟨s1, st⟩ := s.new w
  exact ⟨s1.drop, st.less fun a m => by rw [← List.append_assoc]; exact fps_app.mpr (.inl m)⟩
theorem rs_raise {c f : Str} {fe : FE} (h : RS K E kp (fRaise c f fe) D σ H) : tMkX (He.ga K c) f (tCons (RE K E fe) tNil) σ H fun cls d H' => E σ cls d H' := by
  obtain ⟨Z, es, s, hv, k⟩ := h
  show RE K E fe σ H fun v H1 => tNil σ H1 fun vs H2 => ∃ y, v :: vs = [y] ∧ ∀ d, H2 d = none → E σ (.ref (He.ga K c)) (some d) (upd H2 d (.xd [(f, y)]))
  refine RE.so (ts := []) (n := fun p => kraise c f p.1 p.2) s hv (by rw [List.append_nil]; exact k) fun r Z1 H1 es1 v fp s1 hv1 k1 => ?_
  refine ⟨v, rfl, fun d nd => ?_⟩
  rw [List.nil_append] at s1 k1
  unfold kraise at k1
  split at k1
  · rename_i d0 hd
    obtain ⟨Z2, s2, st⟩ := s1.freeze (Fzd.refl _) (Fzd.all _)
    have fr : FReps K Z2 [v] [d0] := frz_reps (fun u m => s2.ok u (List.mem_append_right _ m)) hd rfl
    obtain ⟨s3, st3⟩ := s2.bare.laid (o := .xd [(f, v)]) nd id
    have e := k1 (upd Z2 d (.xd [(f, v)])) (upd H1 d (.xd [(f, v)])) es1 d ?_ s3 (by rw [hv1]; exact Kept.refl _) rfl ⟨[(f, v)], upd_same, rfl, FReps.mono st3.z fr⟩
    · rw [hv1] at e; exact e
    · rw [List.append_nil] at st3
      exact (st.less fun a m => fps_app.mpr (.inl m)).tr st3
  · exact k1.elim
end
end Mi
namespace Mi
open PySem PySem.Spec PyProof.Rows L2 Rt
section
variable {X : Cx} {CX : CXT} {k : Nat} {g C : Addr} {fd : FuncData} {ps : List Str} {sp : Sp} {dvs : List V} {ds : List Value} {E : EW} {x n : Str} {p pos apos : Pos} {e o : Expr} {es : List Expr} {te : TE} {t : TA}
end
section
variable {X : Cx} {E : EW} {e : Expr} {dvs : List V} {dds : List D} {m : Fm} {fo : FE} {ft : FA}
theorem cv_callE (hd : Paired (Leaf X.K) dvs dds) (h : PE X e (tCallSD (spM X.K m) dvs E (RA X.K E ft))) : PE X e (RE X.K E (fCall m dds ft)) := pe_mono h fun _ _ _ z => re_callE hd z
end
end Mi
namespace Mi
open PySem PySem.Spec PyProof.Rows L2 Rt
def So.wipe (i : Nat) : So → So
  | .nx ss => .nx (setS i .un ss)
  | .bk ss => .bk (setS i .un ss)
  | .ct ss => .ct (setS i .un ss)
  | .rt r ss => .rt r ss
  | _ => .stuck
abbrev EN : EW := fun _ _ _ _ => False
section
variable {K : PySem.W.Frag} {E : EW} {kp : List Nat} {σ : L2.St} {Z H : Hp} {D : Ends} {es ts : List Ent} {xs : List Str} {c : Str} {i : Nat} {f : FS}
theorem Sat.blank (s : Sat K Z H es ts) (v : Option V) : Sat K Z H es (ts ++ [⟨v, .un, []⟩]) := by
  have e : fpsOf (es ++ (ts ++ [⟨v, .un, []⟩])) = fpsOf (es ++ ts) := by
    simp only [fpsOf, List.flatMap_append, List.flatMap_cons, List.flatMap_nil, List.append_nil]
  refine ⟨s.sub, by rw [e]; exact s.nd, fun a m => s.zf a (by rw [e] at m; exact m), fun u m => ?_⟩
  rw [← List.append_assoc] at m
  rcases List.mem_append.mp m with q | q
  · exact s.ok u q
  · obtain rfl := List.mem_singleton.mp q
    rfl
theorem Sat.name (s : Sat K Z H es []) (hi : i < es.length) (v : Option V) : ∃ es', Sat K Z H es' [] ∧ (∀ a ∈ fpsOf es', a ∈ fpsOf es) ∧ vsOf es' = (vsOf es).set i v ∧ ssOf es' = setS i .un (ssOf es) := by
  obtain ⟨es', s', h1, h2, h3⟩ := Sat.assign (ts := []) (s.blank v) hi (by simp)
  refine ⟨es', s', fun a m => ?_, h2, h3⟩
  have := h1 a (by rw [List.append_nil]; exact m)
  simpa [fpsOf] using this
end
section
variable {K : PySem.W.Frag} {E : EW} {kp : List Nat} {σ : L2.St} {Z H : Hp} {D : Ends} {es ts : List Ent} {xs : List Str} {c : Str} {i : Nat} {f : FS} {g : List (Str × Mi.D) → FS}
end
end Mi
namespace Mi
open PySem PySem.Spec PyProof.Rows L2 Rt
/-- one of Python's errors, with what its __init__ is looked up by -/
structure XUse (x : Str) (T nw ini : String) (tl : List Value) : Prop extends XBase T nw ini tl where
  boot : bootBuiltins x = some (.type T)
  nn : x ≠ "__name__"
  nd : (x == ("__debug__" : Str)) = false
  ty : typeOf (.type T) = pure (.type "type")
  stub : Manifest.isStub T = false
  vv : ∀ K : PySem.W.Frag, PySem.W.findCls K (.type T) (.type "type") "__init__" = some (.val (.builtin ini))
  hh : PySem.W.handedIn (.builtin ini) = true
section
variable {X : Cx} {E : EW} {kp : List Nat} {T nw ini : String} {tl : List Value} {x n : Str} {e : Expr} {es : List Expr} {ta : TA} {p p1 p2 pos pos' : Pos} {c f : Str} {fe : FE} {st : Stmt} {sts suite : List Stmt} {b₀ : Stmt} {i j : Nat} {xs : List Str}
theorem cs_raiseX (hc : X.calm = true) (tk : Takes X (fun cls d σ H => E σ cls d H)) (he : PMk X e (tMkX (He.ga X.K c) f (tCons (RE X.K E fe) tNil))) : PS X (.Raise (some e) none pos) (RS X.K E kp (fRaise c f fe)) := ps_mono (ps_raise hc tk he) fun _ _ _ z => rs_raise z
end
theorem pXF {X : Cx} {W : WX} (tk : Takes X W) : Passes (L2.CX X.prog X.w) X (fun _ _ _ => False) := passes_call tk fun _ _ _ _ h => h.elim
theorem tX {P : Program} {w : World} {K : PySem.W.Frag} {mg : Str → Option Value} {base : Heap} {N : List Str} {qual : Str} {scope : Scope} {f : Addr} {cd : Value} {A : Around} {outer : List Env} {s : Shared} {H : Hp} {E : XK} :
    Takes (cxOf (L2.CX P w) P w K mg base N qual scope f cd A outer s H E) (fun cls d _ H => E cls d H) := takes_of rfl rfl rfl rfl
end Mi
namespace Mi
open PySem PySem.Spec PyProof.Rows L2 Rt
section
variable {c c' f : Str} {fs : List (Str × D)} {ss s1 : List Sl} {d : D} {r : Sl} {i j : Nat} {xs : List Str} {g : List (Str × D) → FS} {fe : FE} {b : FS}
def cRaise (c f : Str) (p : Sl × List Sl) : So := kraise c f p.1 p.2
theorem e_raise : fRaise c f fe ss = (fe ss).so (cRaise c f) := rfl
theorem e_craise : cRaise c f (r, ss) = kraise c f r ss := rfl
theorem e_krf : kraise c f (.fz d) ss = .exc c [(f, d)] ss := rfl
theorem e_kro {t : Tg} : kraise c f (.ow t d) ss = .exc c [(f, d)] ss := rfl
theorem e_wn : (So.nx ss).wipe i = .nx (setS i .un ss) := rfl
theorem e_wb : (So.bk ss).wipe i = .bk (setS i .un ss) := rfl
theorem e_wc : (So.ct ss).wipe i = .ct (setS i .un ss) := rfl
theorem e_wr : (So.rt r ss).wipe i = .rt r ss := rfl
end
end Mi
namespace Mi
open PySem PySem.Spec PyProof.Rows L2 Rt
section
variable {K : PySem.W.Frag} {Z H : Hp}
/-- leaves as values, for tests of flat things -/
def leafV : D → Option V
  | .non => some .non
  | .bl b => some (.bl b)
  | .int i => some (.int i)
  | .str x => some (.str x)
  | _ => none
def leafVs : List D → Option (List V)
  | [] => some []
  | d :: r => (leafV d).bind fun v => (leafVs r).bind fun vs => some (v :: vs)
theorem leafV_of {d : D} {v w : V} (e : leafV d = some v) (h : FRep K Z w d) : w = v ∧ flatV v = true := by
  cases d with
  | non => cases e; cases h.leaf_of (d := .non) rfl; exact ⟨rfl, rfl⟩
  | bl b => cases e; cases h.leaf_of (d := .bl b) rfl; exact ⟨rfl, rfl⟩
  | int i => cases e; cases h.leaf_of (d := .int i) rfl; exact ⟨rfl, rfl⟩
  | str x => cases e; cases h.leaf_of (d := .str x) rfl; exact ⟨rfl, rfl⟩
  | _ => cases e
theorem leafVs_of : ∀ {ds : List D} {vs ws : List V}, leafVs ds = some vs → FReps K Z ws ds → ws = vs ∧ vs.all flatV = true
  | [], _, _, e, .nil => by cases e; exact ⟨rfl, rfl⟩
  | d :: r, _, _, e, .cons h t => by
    obtain ⟨v, e1, e2⟩ := Option.bind_eq_some_iff.mp e
    obtain ⟨vs, e3, e4⟩ := Option.bind_eq_some_iff.mp e2
    cases e4
    obtain ⟨rfl, f1⟩ := leafV_of e1 h
    obtain ⟨rfl, f2⟩ := leafVs_of e3 t
    exact ⟨rfl, by rw [List.all_cons, f1, f2]; rfl⟩
/-- x in y; y a text, a list, a tuple of leaves -/
def inD (x y : D) : Option Bool := match y with
  | .str b => match x with
    | .str a => some (!(Builtin.Str.occurrences b a 0 b.length 1).isEmpty)
    | _ => none
  | .lst ds => (toPD x).bind fun p => (toPDs ds).bind fun ps => if (SeqAt.shaped p && SeqAt.shaped (.list ps)) = true then some (ps.any fun z => PyData.eqv z p) else none
  | .tup ds => (leafV x).bind fun a => (leafVs ds).bind fun bs => some (inV a bs)
  | .dk kvs => (x.key?).bind fun k => some (getK kvs k).isSome
  | _ => none
def opIn (_ : Tg) (x : D) (_ : Tg) (y : D) : Option Sl := (inD x y).map fun b => .fz (.bl b)
def opNotIn (_ : Tg) (x : D) (_ : Tg) (y : D) : Option Sl := (inD x y).map fun b => .fz (.bl (!b))
def rInStr (neg : Bool) : R2 := fun x y H Q => ∃ i j, x = .str i ∧ y = .str j ∧ Q (.bl (if neg then !(!(Builtin.Str.occurrences j i 0 j.length 1).isEmpty) else !(Builtin.Str.occurrences j i 0 j.length 1).isEmpty)) H
def rInK (neg : Bool) : R2 := fun y x H Q => ∃ a o, x = .ref a ∧ DGet H a y o ∧ Q (.bl (if neg then !o.isSome else o.isSome)) H
def rInU (K : PySem.W.Frag) : R2 := fun x y H Q => rInStr false x y H Q ∨ ((rInD K x y H Q ∨ rIn K false x y H Q) ∨ rInK false x y H Q)
def rNotInU (K : PySem.W.Frag) : R2 := fun x y H Q => rInStr true x y H Q ∨ ((rNotInD K x y H Q ∨ rIn K true x y H Q) ∨ rInK true x y H Q)
theorem or_inK {X : Cx} (hu : X.A.units + 1 < cLine) : OpR X (compareOp .In) (rInK false) := fun pins s σ H y x iv u Q I ry rx h => by
  obtain ⟨a, o, rfl, g, q⟩ := h
  obtain rfl : u = Value.ref a := rx
  exact d_in hu I g ry fun s3 I3 => ⟨.bl o.isSome, H, I3, rfl, q⟩
theorem or_notinK {X : Cx} (hu : X.A.units + 1 < cLine) : OpR X (compareOp .NotIn) (rInK true) := fun pins s σ H y x iv u Q I ry rx h => by
  obtain ⟨a, o, rfl, g, q⟩ := h
  obtain rfl : u = Value.ref a := rx
  exact d_notIn hu I g ry fun s3 I3 => ⟨.bl (!o.isSome), H, I3, rfl, q⟩
theorem key_val {d : D} {k : Key} {v : V} (e : d.key? = some k) (h : FRep K Z v d) : v = kV k := by
  cases d with
  | int i => cases e; cases h.leaf_of (d := .int i) rfl; rfl
  | str x => cases e; cases h.leaf_of (d := .str x) rfl; rfl
  | _ => cases e
theorem inD_of {t u : Tg} {x y : D} {v w : V} {fp fq : List Addr} {b : Bool} (s : SubM K Z H) (h1 : Rep K Z H t v x fp) (h2 : Rep K Z H u w y fq) (e : inD x y = some b) :
    (∃ i j, v = .str i ∧ w = .str j ∧ b = !(Builtin.Str.occurrences j i 0 j.length 1).isEmpty) ∨ (∃ d ds, Dp K H v d ∧ Dp K H w (.list ds) ∧ SeqAt.shaped d = true ∧ SeqAt.shaped (.list ds) = true ∧ b = ds.any fun z => PyData.eqv z d) ∨
      (∃ p xs, w = .ref p ∧ (SqL K H p xs ∨ SqT K H p xs) ∧ flatV v = true ∧ xs.all flatV = true ∧ b = inV v xs) ∨ ∃ a o, w = .ref a ∧ DGet H a v o ∧ b = o.isSome := by
  unfold inD at e
  split at e
  · split at e
    · cases e
      rw [rep_str s h1, rep_str s h2]
      exact .inl ⟨_, _, rfl, rfl, rfl⟩
    · cases e
  · obtain ⟨p, e1, e2⟩ := Option.bind_eq_some_iff.mp e
    obtain ⟨ps, e3, e4⟩ := Option.bind_eq_some_iff.mp e2
    split at e4
    · rename_i hs
      rw [Bool.and_eq_true] at hs
      cases e4
      exact .inr (.inl ⟨p, ps, dp_of (h1.rd s.toSub) e1, dp_of (h2.rd s.toSub) (show toPD (.lst _) = some (.list ps) by simp only [toPD, e3, Option.map_some]), hs.1, hs.2, rfl⟩)
    · cases e4
  · obtain ⟨a, e1, e2⟩ := Option.bind_eq_some_iff.mp e
    obtain ⟨bs, e3, e4⟩ := Option.bind_eq_some_iff.mp e2
    cases e4
    obtain ⟨q, vs, rfl, hq, fr⟩ := rep_tupR s h2
    obtain ⟨rfl, f1⟩ := leafV_of e1 (h1.rd s.toSub)
    obtain ⟨rfl, f2⟩ := leafVs_of e3 fr
    exact .inr (.inr (.inl ⟨q, _, rfl, .inr hq, f1, f2, rfl⟩))
  · obtain ⟨k, e1, e2⟩ := Option.bind_eq_some_iff.mp e
    cases e2
    obtain ⟨a, gs, rfl, ha, hk, hs⟩ := rep_dkR s h2
    refine .inr (.inr (.inr ⟨a, _, rfl, .inl ⟨gs, k, ha, key_val e1 (h1.rd s.toSub), rfl⟩, ?_⟩))
    rcases getK_rel (k := k) hk hs with ⟨q1, q2⟩ | ⟨v', d', q1, q2, _⟩
    · rw [q1, q2]; rfl
    · rw [q1, q2]; rfl
  · cases e
theorem op_in_ok : Op2 K (rInU K) opIn := by
  intro Z H t u x y v w fp fq res Q s h1 h2 h k
  obtain ⟨b, e, rfl⟩ := Option.map_eq_some_iff.mp h
  have kk := nl s k (.bl b)
  rcases inD_of s h1 h2 e with ⟨i, j, rfl, rfl, rfl⟩ | ⟨d, ds, a1, a2, a3, a4, rfl⟩ | ⟨p, xs, rfl, a1, a2, a3, rfl⟩ | ⟨a, o, rfl, g, rfl⟩
  · exact .inl ⟨i, j, rfl, rfl, kk⟩
  · exact .inr (.inl (.inl ⟨d, ds, a1, a2, a3, a4, kk⟩))
  · exact .inr (.inl (.inr ⟨p, xs, rfl, a1, a2, a3, kk⟩))
  · exact .inr (.inr ⟨a, o, rfl, g, kk⟩)
theorem op_notin_ok : Op2 K (rNotInU K) opNotIn := by
  intro Z H t u x y v w fp fq res Q s h1 h2 h k
  obtain ⟨b, e, rfl⟩ := Option.map_eq_some_iff.mp h
  have kk := nl s k (.bl (!b))
  rcases inD_of s h1 h2 e with ⟨i, j, rfl, rfl, rfl⟩ | ⟨d, ds, a1, a2, a3, a4, rfl⟩ | ⟨p, xs, rfl, a1, a2, a3, rfl⟩ | ⟨a, o, rfl, g, rfl⟩
  · exact .inl ⟨i, j, rfl, rfl, kk⟩
  · exact .inr (.inl (.inl ⟨d, ds, a1, a2, a3, a4, kk⟩))
  · exact .inr (.inl (.inr ⟨p, xs, rfl, a1, a2, a3, kk⟩))
  · exact .inr (.inr ⟨a, o, rfl, g, kk⟩)
theorem op_inU {X : Cx} (hu : X.A.units + 65 < cLine) : OpR X (compareOp .In) (rInU X.K) := (show OpR X (compareOp .In) (rInStr false) from op_in_str).or (((op_inD hu).or op_in_seq).or (or_inK (by omega)))
theorem op_notinU {X : Cx} (hu : X.A.units + 65 < cLine) : OpR X (compareOp .NotIn) (rNotInU X.K) := (show OpR X (compareOp .NotIn) (rInStr true) from op_notin_str).or (((op_notInD hu).or op_notIn_seq).or (or_notinK (by omega)))
end
theorem hu_of {k : Nat} {A : Around} (r : Room k A) : A.units + 65 < cLine := by have := r.un; omega
section
variable {t u : Tg} {x y : Int} {d d' : D}
theorem e_in : opIn t d u d' = (inD d d').map fun b => .fz (.bl b) := rfl
theorem e_notin : opNotIn t d u d' = (inD d d').map fun b => .fz (.bl (!b)) := rfl
theorem e_inK {kvs : List (Key × D)} : inD d (.dk kvs) = (d.key?).bind fun k => some (getK kvs k).isSome := by cases d <;> rfl
theorem e_inS {a b : Str} : inD (.str a) (.str b) = some (!(Builtin.Str.occurrences b a 0 b.length 1).isEmpty) := rfl
end
end Mi
namespace Mi
open PySem PySem.Spec PyProof.Rows L2 Rt
theorem hu1_of {k : Nat} {A : Around} (r : Room k A) : A.units + 1 < cLine := by have := r.un; omega
def isDk (r : Sl) (ss : List Sl) : Bool := match r.val ss with
  | some (_, .dk _) => true
  | _ => false
/-- d.get(k, z) -/
def opGet (t : Tg) (d k z : D) : Option Sl := match d with
  | .dk kvs => (k.key?).bind fun q => match getK kvs q with
    | some e => partSl t e
    | none => some (.fz z)
  | _ => none
def kget2 (a b c : Sl) (ss : List Sl) : Ro (Sl × List Sl) := match c with
  | .fz z => orS ((a.val ss).bind fun x => (b.val ss).bind fun y => opGet x.1 x.2 y.2 z) ss
  | _ => .stuck
def cGet3 (a b : Sl) (r : Sl × List Sl) : Ro (Sl × List Sl) := kget2 a b r.1 r.2
def cGet2 (a : Sl) (fx : FE) (q : Sl × List Sl) : Ro (Sl × List Sl) := (fx q.2).bind (cGet3 a q.1)
def cGet1 (fk fx : FE) (p : Sl × List Sl) : Ro (Sl × List Sl) := if isDk p.1 p.2 = true then (fk p.2).bind (cGet2 p.1 fx) else .stuck
def fDGet2 (fd fk fx : FE) : FE := fun ss => (fd ss).bind (cGet1 fk fx)
section
variable {K : PySem.W.Frag} {E : EW} {σ : L2.St} {Z H : Hp} {es ts : List Ent} {Q : VK} {fd fk fx : FE}
theorem isDk_of {a : Sl} {v : V} {fp : List Addr} (s : Sat K Z H es ts) (m : (⟨some v, a, fp⟩ : Ent) ∈ es ++ ts) (h : isDk a (ssOf es) = true) : ∃ p, v = .ref p ∧ IsD H p := by
  unfold isDk at h
  split at h
  · rename_i t kvs e
    obtain ⟨f, rp, _⟩ := s.val m rfl e
    obtain ⟨p, gs, rfl, hr, _, _⟩ := rep_dkR s.sub rp
    exact ⟨p, rfl, .inl ⟨gs, hr⟩⟩
  · cases h
theorem opGet_of {t u : Tg} {d k z : D} {v w y : V} {fp fq : List Addr} {res : Sl} (s : SubM K Z H) (h1 : Rep K Z H t v d fp) (h2 : Rep K Z H u w k fq) (h3 : FRep K Z y z) (h : opGet t d k z = some res) (kk : ∀ Z' H' x fu, New K Z H Z' H' x res fu → Q x H') :
    ∃ p o, v = .ref p ∧ DGet H p w o ∧ Q (o.getD y) H := by
  unfold opGet at h
  split at h
  · obtain ⟨q, e1, e2⟩ := Option.bind_eq_some_iff.mp h
    have ew := key_val e1 (h2.rd s.toSub)
    have nothing : ∀ {gs kvs}, valV gs q = none → getK kvs q = none → (match getK kvs q with | some e => partSl t e | none => some (.fz z)) = some res → Q y H := fun {gs kvs} _ n e => by
      rw [n] at e
      cases e
      exact kk Z H y [] (New.fz s h3)
    by_cases hf : t.flat = true
    · obtain ⟨a, gs, rfl, ha, hk, hs⟩ := rep_dk hf s h1
      refine ⟨a, _, rfl, .inl ⟨gs, q, ha, ew, rfl⟩, ?_⟩
      rcases getK_rel (k := q) hk hs with ⟨n1, n2⟩ | ⟨x, d', e5, e6, e7⟩
      · rw [n1]; exact nothing n1 n2 e2
      · rw [e5]; rw [e6] at e2
        exact part_of s e2 (fun _ => e7) (e7.rd s.toSub) kk
    · obtain ⟨a, gs, rfl, ha, hk, hs⟩ := rep_dkR s h1
      refine ⟨a, _, rfl, .inl ⟨gs, q, ha, ew, rfl⟩, ?_⟩
      rcases getK_rel (k := q) hk hs with ⟨n1, n2⟩ | ⟨x, d', e5, e6, e7⟩
      · rw [n1]; exact nothing n1 n2 e2
      · rw [e5]; rw [e6] at e2
        exact part_of s e2 (fun z => (hf z).elim) e7 kk
  · cases h
theorem re_dget2 (h : RE K E (fDGet2 fd fk fx) σ H Q) : tDGet2 (RE K E fd) (RE K E fk) (RE K E fx) σ H Q := by
  obtain ⟨Z, es, s, hv, k⟩ := h
  refine RE.next (ts := []) (n := cGet1 fk fx) s hv (by rw [List.append_nil]; exact k) fun a Z1 H1 es1 v fp s1 hv1 k1 => ?_
  unfold cGet1 at k1
  dsimp only at k1
  split at k1
  · rename_i hd
    obtain ⟨p, rfl, isd⟩ := isDk_of (v := v) (fp := fp) s1 (by simp) hd
    refine ⟨p, rfl, isd, ?_⟩
    refine RE.next (n := cGet2 a fx) s1 hv1 k1 fun b Z2 H2 es2 w fq s2 hv2 k2 => ?_
    refine RE.next (n := cGet3 a b) s2 hv2 k2 fun c Z3 H3 es3 y fr s3 hv3 k3 => ?_
    unfold cGet3 kget2 at k3
    dsimp only at k3
    split at k3
    · rename_i z
      obtain ⟨r, hr, k4⟩ := Kon.some k3
      obtain ⟨⟨t, d⟩, g1, g2⟩ := Option.bind_eq_some_iff.mp hr
      obtain ⟨⟨u, e⟩, g3, g4⟩ := Option.bind_eq_some_iff.mp g2
      obtain ⟨f, rp, _⟩ := s3.val (e := ⟨some (.ref p), a, fp⟩) (by simp) rfl g1
      obtain ⟨f', rp', _⟩ := s3.val (e := ⟨some w, b, fq⟩) (by simp) rfl g3
      obtain ⟨f'', rp'', _⟩ := s3.val (e := ⟨some y, .fz z, fr⟩) (by simp) rfl (show (Sl.fz z).val (ssOf es3) = some (.fz, z) from rfl)
      obtain ⟨p', o, e1, e2, e3⟩ := opGet_of s3.sub rp rp' rp''.1 g4 fun Z' H' u fu n => fin_new s3 hv3 k4 n
      cases e1
      exact ⟨o, e2, e3⟩
    · exact k3.elim
  · exact k1.elim
end
section
variable {X : Cx} {E : EW} {fd fk fx : FE} {e : Expr} {ss : List Sl} {a b : Sl} {t : Tg} {d k z : D} {kvs : List (Key × D)}
theorem cv_dget2 (h : PE X e (tDGet2 (RE X.K E fd) (RE X.K E fk) (RE X.K E fx))) : PE X e (RE X.K E (fDGet2 fd fk fx)) := pe_mono h fun _ _ _ z => re_dget2 z
def isDk1 : Option (Tg × D) → Bool
  | some (_, .dk _) => true
  | _ => false
theorem e_isDk : isDk a ss = isDk1 (a.val ss) := by unfold isDk isDk1; rfl
theorem e_isDk1 : isDk1 (some (t, .dk kvs)) = true := rfl
theorem e_dget2 : fDGet2 fd fk fx ss = (fd ss).bind (cGet1 fk fx) := rfl
theorem e_cget1 : cGet1 fk fx (a, ss) = if isDk a ss = true then (fk ss).bind (cGet2 a fx) else .stuck := rfl
theorem e_cget2 : cGet2 a fx (b, ss) = (fx ss).bind (cGet3 a b) := rfl
theorem e_cget3 : cGet3 a b (.fz z, ss) = orS ((a.val ss).bind fun x => (b.val ss).bind fun y => opGet x.1 x.2 y.2 z) ss := rfl
def opGet1 (t : Tg) (z : D) : Option D → Option Sl
  | some e => partSl t e
  | none => some (.fz z)
theorem e_opGet : opGet t (.dk kvs) k z = (k.key?).bind fun q => opGet1 t z (getK kvs q) := by
  unfold opGet opGet1
  rfl
theorem e_opGetS : opGet1 t z (some d) = partSl t d := rfl
theorem e_opGetN : opGet1 t z none = some (.fz z) := rfl
end
end Mi
namespace Mi
open PySem PySem.Spec PyProof.Rows L2 Rt
def strOf : D → Option Str
  | .str x => some x
  | _ => none
def strsOf : List D → Option (List Str)
  | [] => some []
  | d :: r => (strOf d).bind fun x => (strsOf r).bind fun xs => some (x :: xs)
section
variable {K : PySem.W.Frag} {Z H : Hp}
theorem strs_of : ∀ {ds : List D} {ys : List Str} {vs : List V}, strsOf ds = some ys → FReps K Z vs ds → vs = ys.map V.str
  | [], _, _, e, .nil => by cases e; rfl
  | d :: r, _, _, e, .cons h t => by
    obtain ⟨x, e1, e2⟩ := Option.bind_eq_some_iff.mp e
    obtain ⟨xs, e3, e4⟩ := Option.bind_eq_some_iff.mp e2
    cases e4
    cases d with
    | str z =>
      cases e1
      cases h.leaf_of (d := .str x) rfl
      rw [strs_of e3 t]; rfl
    | _ => cases e1
theorem strsOf_map : ∀ ys : List Str, strsOf (ys.map .str) = some ys
  | [] => rfl
  | y :: r => by
    show (strOf (.str y)).bind (fun x => (strsOf (r.map .str)).bind fun xs => some (x :: xs)) = _
    rw [strsOf_map r]; rfl
theorem strs_reps : ∀ ys : List Str, FReps K Z (ys.map V.str) (ys.map D.str)
  | [] => .nil
  | y :: r => .cons (.leaf (.str y)) (strs_reps r)
def opJoin (_ : Tg) (d : D) (xs : List (Tg × D)) : Option Sl := match d, xs with
  | .str a, [(_, .lst ds)] => (strsOf ds).bind fun ys => if (ys.map (·.length)).sum + ys.length * a.length ≤ 16777216 then some (.fz (.str (Txt.join a ys))) else none
  | .str a, [(_, .tup ds)] => (strsOf ds).bind fun ys => if (ys.map (·.length)).sum + ys.length * a.length ≤ 16777216 then some (.fz (.str (Txt.join a ys))) else none
  | _, _ => none
def rJoin (K : PySem.W.Frag) : V → List V → Hp → VK → Prop := fun x xs H Q => ∃ a p, ∃ ys : List Str, x = .str a ∧ xs = [.ref p] ∧ (SqL K H p (ys.map V.str) ∨ SqT K H p (ys.map V.str)) ∧ (ys.map (·.length)).sum + ys.length * a.length ≤ 16777216 ∧ Q (.str (Txt.join a ys)) H
theorem op_join_ok : OpM K (rJoin K) opJoin := by
  intro Z H t d v fp vs xs res Q s h1 hs h k
  unfold opJoin at h
  split at h
  · rename_i a u ds
    obtain ⟨ys, e1, e2⟩ := Option.bind_eq_some_iff.mp h
    split at e2
    · rename_i hl
      cases e2
      cases hs with
      | cons g1 hs =>
        cases hs
        obtain ⟨f, g1⟩ := g1
        obtain ⟨p, ws, rfl, q, fr⟩ := rep_lstR s g1
        rw [strs_of e1 fr] at q
        rw [rep_str s h1]
        exact ⟨a, p, ys, rfl, rfl, .inl (.of q), hl, nl s k (.str _)⟩
    · cases e2
  · rename_i a u ds
    obtain ⟨ys, e1, e2⟩ := Option.bind_eq_some_iff.mp h
    split at e2
    · rename_i hl
      cases e2
      cases hs with
      | cons g1 hs =>
        cases hs
        obtain ⟨f, g1⟩ := g1
        obtain ⟨p, ws, rfl, q, fr⟩ := rep_tupR s g1
        rw [strs_of e1 fr] at q
        rw [rep_str s h1]
        exact ⟨a, p, ys, rfl, rfl, .inr q, hl, nl s k (.str _)⟩
    · cases e2
  · cases h
def opSplit (_ : Tg) (d : D) (xs : List (Tg × D)) : Option Sl := match d, xs with
  | .str a, [(_, .str b)] => if (b.length == 0) = false ∧ a.length + 2 ≤ sizeLine then some (.ow .o1 (.lst ((Txt.split a b).map .str))) else none
  | _, _ => none
def rSplit : V → List V → Hp → VK → Prop := fun x xs H Q => ∃ a b, x = .str a ∧ xs = [.str b] ∧ (b.length == 0) = false ∧ a.length + 2 ≤ sizeLine ∧ rNewStrs (Txt.split a b) H Q
theorem op_split_ok : OpM K rSplit opSplit := by
  intro Z H t d v fp vs xs res Q s h1 hs h k
  unfold opSplit at h
  split at h
  · rename_i a u b
    split at h
    · rename_i hc
      cases h
      cases hs with
      | cons g1 hs =>
        cases hs
        obtain ⟨f, g1⟩ := g1
        rw [rep_str s h1, rep_str s g1]
        exact ⟨a, b, rfl, rfl, hc.1, hc.2, fun p np => k _ _ _ _ (New.o1 s np rfl rfl (strs_reps _))⟩
    · cases h
  · cases h
end
section
variable {t u : Tg} {a b : Str} {ds : List D}
theorem e_joinL : opJoin t (.str a) [(u, .lst ds)] = (strsOf ds).bind fun ys => if (ys.map (·.length)).sum + ys.length * a.length ≤ 16777216 then some (.fz (.str (Txt.join a ys))) else none := rfl
theorem e_joinT : opJoin t (.str a) [(u, .tup ds)] = (strsOf ds).bind fun ys => if (ys.map (·.length)).sum + ys.length * a.length ≤ 16777216 then some (.fz (.str (Txt.join a ys))) else none := rfl
theorem e_split : opSplit t (.str a) [(u, .str b)] = if (b.length == 0) = false ∧ a.length + 2 ≤ sizeLine then some (.ow .o1 (.lst ((Txt.split a b).map .str))) else none := rfl
end
end Mi
namespace Mi
open PySem PySem.Spec PyProof.Rows L2 Rt
section
variable {K : PySem.W.Frag} {Z H : Hp}
theorem e_append {xs : List D} {x : D} : opAppend (.lst xs) [x] = if xs.length < sizeLine then some (.lst (xs ++ [x]), .non) else none := rfl
end
section
variable {T : String} {op : Tg → D → List (Tg × D) → Option Sl} {up : D → List D → Option (D × D)} {fo : FE} {ft : FA} {ss rs : List Sl} {a : Sl} {t : Tg} {d : D} {i : Nat} {q : D × D} {x : Str} {ds : List D}
def cBm2 (op : Tg → D → List (Tg × D) → Option Sl) (a : Sl) (q : List Sl × List Sl) : Ro (Sl × List Sl) := kbm op a q.1 q.2
def cBm1 (T : String) (op : Tg → D → List (Tg × D) → Option Sl) (ft : FA) (p : Sl × List Sl) : Ro (Sl × List Sl) := if tyS T p.1 p.2 = true then (ft p.2).bind (cBm2 op p.1) else .stuck
theorem e_bm : fBM T op fo ft ss = (fo ss).bind (cBm1 T op ft) := rfl
theorem e_cbm1 : cBm1 T op ft (a, ss) = if tyS T a ss = true then (ft ss).bind (cBm2 op a) else .stuck := rfl
theorem e_cbm2 : cBm2 op a (rs, ss) = orS ((a.val ss).bind fun x => (valL ss rs).bind fun ys => op x.1 x.2 ys) ss := rfl
def tyS1 (T : String) : Option (Tg × D) → Bool
  | some (_, d) => tyD T d
  | none => false
theorem e_tyS : tyS T a ss = tyS1 T (a.val ss) := by unfold tyS tyS1; rfl
theorem e_tyS1 : tyS1 T (some (t, d)) = tyD T d := rfl
theorem e_tyDl : tyD T (.lst ds) = decide (T = "list") := rfl
theorem e_tyDs : tyD T (.str x) = decide (T = "str") := rfl
def cMu2 (up : D → List D → Option (D × D)) (a : Sl) (q : List Sl × List Sl) : Ro (Sl × List Sl) := kmu up a q.1 q.2
def cMu1 (T : String) (up : D → List D → Option (D × D)) (ft : FA) (p : Sl × List Sl) : Ro (Sl × List Sl) := if tyS T p.1 p.2 = true then (ft p.2).bind (cMu2 up p.1) else .stuck
theorem e_mu : fMU T up fo ft ss = (fo ss).bind (cMu1 T up ft) := rfl
theorem e_cmu1 : cMu1 T up ft (a, ss) = if tyS T a ss = true then (ft ss).bind (cMu2 up a) else .stuck := rfl
def kmu1 (up : D → List D → Option (D × D)) (i : Nat) (ss : List Sl) (xs : Option (List D)) : Option Sl → Ro (Sl × List Sl)
  | some (.ow .o1 d) => match xs.bind fun xs => up d xs with
    | some q => .ok (.fz q.2, ss.set i (.ow .o1 q.1))
    | none => .stuck
  | _ => .stuck
def kmu2 (i : Nat) (ss : List Sl) : Option (D × D) → Ro (Sl × List Sl)
  | some q => .ok (.fz q.2, ss.set i (.ow .o1 q.1))
  | none => .stuck
theorem e_cmu2 : cMu2 up (.al i) (rs, ss) = kmu1 up i ss (frzL rs) ss[i]? := by
  show kmu up (.al i) rs ss = _
  unfold kmu
  dsimp only
  cases h1 : ss[i]? with
  | none => rfl
  | some e =>
    cases e with
    | ow t d => cases t <;> rfl
    | _ => rfl
theorem e_kmu1 {xs : Option (List D)} : kmu1 up i ss xs (some (.ow .o1 d)) = kmu2 i ss (xs.bind fun xs => up d xs) := rfl
theorem e_kmu2 : kmu2 i ss (some q) = .ok (.fz q.2, ss.set i (.ow .o1 q.1)) := rfl
end
end Mi
namespace Mi
open PySem PySem.Spec PyProof.Rows L2 Rt
section
variable {X : Cx} {E0 : XK} {e : Expr} {dvs : List V} {dds : List D} {m : Fm}
end
end Mi
namespace Mi
open PySem PySem.Spec PyProof.Rows L2 Rt
section
variable {K : PySem.W.Frag} {Z H : Hp}
end
end Mi
namespace Mi
open PySem PySem.Spec PyProof.Rows L2 Rt
section
variable {X : Cx} {E : EW} {e : Expr} {fo : FE}
end
section
variable {K : PySem.W.Frag}
end
end Mi
namespace Mi
open PySem PySem.Spec PyProof.Rows L2 Rt
section
variable {K : PySem.W.Frag} {Z H : Hp}
end
end Mi
namespace Mi
open PySem PySem.Spec PyProof.Rows L2 Rt
/-- what e gives is a dict; it is locked from here on -/
def tLk (t : TE) : TE := fun σ H Q => t σ H fun x H1 => ∃ d kvs, x = .ref d ∧ ((H1 d = some (.dK kvs) ∧ ∀ o, Q x (upd H1 d (.frz o (.dK kvs)))) ∨ ∃ o, H1 d = some (.frz o (.dK kvs)) ∧ Q x H1)
theorem pe_lk {X : Cx} {e : Expr} {t : TE} (h : PE X e t) : PE X e (tLk t) := by
  refine ⟨fun pins s σ H Q I hw => ?_⟩
  refine thn (h.run pins s σ H _ I hw) fun v s1 ⟨x, H1, I1, r, d, kvs, ex, q⟩ => ?_
  rcases q with ⟨hd, q⟩ | ⟨o, hd, q⟩
  · obtain ⟨od, I2⟩ := I1.lock hd trivial
    exact ⟨x, _, I2, r, q od⟩
  · exact ⟨x, H1, I1, r, q⟩
def kD : Key → D
  | .inl i => .int i
  | .inr x => .str x
def iDictF (sel : Key × D → D) (fa : FE) : FI := fun ss => (ffrz fa ss).bind fun p => match p.1 with
  | .fz (.dk kvs) => .ok (kvs.map sel, p.2)
  | _ => .stuck
def selK (kv : Key × D) : D := kD kv.1
section
variable {K : PySem.W.Frag} {E : EW} {σ : L2.St} {Z H : Hp} {es ts : List Ent} {d : Addr} {gs : List (Key × V)} {kvs : List (Key × D)}
theorem SubM.lock {u : HO} {o : Obj} (s : SubM K Z H) (hz : Z d = Option.some u) (hl : lockable u) : SubM K Z (L2.upd H d (.frz o u)) := ⟨⟨fun a w e n => by
  by_cases q : a = d
  · subst q
    rw [hz] at e; cases e
    exact .inr ⟨hl, o, upd_same⟩
  · rw [upd_ne q]; exact s.fz a w e n, fun a m e => tabS_upd (s.tb a m e) fun o0 h0 => by
  rcases s.fz d u hz (lock_nt hl) with z | ⟨_, b, z⟩
  · rw [z] at h0; cases h0; exact lock_nc hl
  · rw [z] at h0; cases h0; exact id⟩, s.tm⟩
theorem Sat.lock {u : HO} {o : Obj} (s : Sat K Z H es ts) (hz : Z d = some u) (hd : H d = some u) (hl : lockable u) : Sat K Z (upd H d (.frz o u)) es ts ∧ Step Z H (fpsOf (es ++ ts)) Z (upd H d (.frz o u)) (fpsOf (es ++ ts)) := by
  have ne : ∀ a ∈ fpsOf (es ++ ts), a ≠ d := fun a m q => by
    have := s.zf a m
    rw [q, hz] at this; cases this
  refine ⟨⟨s.sub.lock hz hl, s.nd, s.zf, fun e m => (s.ok e m).frame (Le.refl _) (fun a ma w e' => ?_) rfl⟩, ⟨fun a w e _ => ?_, fun a m => .inl m, Le.refl _, fun _ _ e => .inl e⟩⟩
  · rw [upd_ne (ne a (mem_fps.mpr ⟨e, m, ma⟩))]; exact e'
  · by_cases q : a = d
    · subst q
      rw [hd] at e; cases e
      exact .inr ⟨⟨_, hz⟩, .inl ⟨hl, o, upd_same⟩⟩
    · exact .inl (by rw [upd_ne q]; exact e)
abbrev lkH (d : Addr) (o : Obj) (gs : List (Key × V)) : Hp := upd (fun _ => none) d (.frz o (.dK gs))
theorem lkIn_at {o : Obj} (hz : ∃ z, Z d = some z) (hd : H d = some (.frz o (.dK gs))) : LkIn (lkH d o gs) Z H := fun a w e => by
  by_cases q : a = d
  · subst q
    have e' : some (HO.frz o (.dK gs)) = some w := (upd_same (H := fun _ => none)).symm.trans e
    cases e'
    exact ⟨hd, ⟨fun z => z, fun z => z⟩, hz⟩
  · have e' : none = some w := (upd_ne (H := fun _ => none) q).symm.trans e
    cases e'
theorem kvs_get {i : Nat} {k : Key} {v : V} (hk : gs.map (·.1) = kvs.map (·.1)) (hs : FReps K Z (gs.map (·.2)) (kvs.map (·.2))) (h : gs[i]? = some (k, v)) : ∃ x, kvs[i]? = some (k, x) ∧ FRep K Z v x := by
  have hl : gs.length = kvs.length := by have := congrArg List.length hk; simpa using this
  have hi : i < kvs.length := by rw [← hl]; exact (List.getElem?_eq_some_iff.mp h).1
  have e1 : (gs.map (·.1))[i]? = some k := by rw [List.getElem?_map, h]; rfl
  rw [hk, List.getElem?_map, List.getElem?_eq_getElem hi] at e1
  have e2 : (kvs.map (·.2))[i]? = some kvs[i].2 := by rw [List.getElem?_map, List.getElem?_eq_getElem hi]; rfl
  obtain ⟨w, g1, g2⟩ := hs.get e2
  rw [List.getElem?_map, h] at g1
  cases g1
  refine ⟨kvs[i].2, ?_, g2⟩
  rw [List.getElem?_eq_getElem hi]
  have : kvs[i].1 = k := Option.some.inj e1
  rw [← this]
theorem leaf_kD (k : Key) : Leaf K (kV k) (kD k) := by
  cases k with
  | inl i => exact .int i
  | inr x => exact .str x
section
variable {o : Obj} (hk : gs.map (·.1) = kvs.map (·.1)) (hs : FReps K Z (gs.map (·.2)) (kvs.map (·.2)))
include hk hs
theorem walk_keys : Walk K Z (lkH d o gs) (Itk d o gs) (kvs.map selK) := by
  have hl : gs.length = kvs.length := by have := congrArg List.length hk; simpa using this
  have at_ : ∀ {Z' H'}, LkIn (lkH d o gs) Z' H' → H' d = some (.frz o (.dK gs)) := fun l => (l d _ upd_same).1
  refine ⟨fun i Z' H' le su l hi => ⟨at_ l, by rw [List.length_map] at hi; omega⟩, fun Z' H' le su l => ⟨at_ l, by rw [List.length_map]; omega⟩, fun i Z' H' x H'' d' le su l hd y => ?_⟩
  obtain ⟨e, k, v, g, rfl⟩ := y
  subst e
  obtain ⟨w, g1, g2⟩ := kvs_get hk hs g
  rw [List.getElem?_map, g1] at hd
  cases hd
  exact ⟨Z', New.leaf su (leaf_kD k)⟩
end
theorem FRep.dk_at {v : V} (h : FRep K Z v (.dk kvs)) : ∃ a gs, v = .ref a ∧ Z a = some (.dK gs) ∧ gs.map (·.1) = kvs.map (·.1) ∧ FReps K Z (gs.map (·.2)) (kvs.map (·.2)) := by
  obtain ⟨a, vs, h1, h2, h3⟩ := h.node_of (k := .dk (kvs.map (·.1))) (ds := kvs.map (·.2)) rfl
  rcases h3 with ⟨o, h3, h4⟩ | q
  · obtain ⟨gs, rfl, e1, rfl⟩ := oview_dk h4
    exact ⟨a, gs, h1, h3, e1, h2⟩
  · exact q.elim
/-- the three walks at once: J tells the iterator of a locked dict -/
theorem ri_dict {sel : Key × D → D} {fa : FE} {R : It → Hp → Prop} {J : Addr → Obj → List (Key × V) → It}
    (hJ : ∀ {Z : Hp} {d : Addr} {o : Obj} {gs : List (Key × V)} {kvs : List (Key × D)}, gs.map (·.1) = kvs.map (·.1) → FReps K Z (gs.map (·.2)) (kvs.map (·.2)) → Walk K Z (lkH d o gs) (J d o gs) (kvs.map sel))
    (h : RI K E (iDictF sel fa) σ H R) : tLk (RE K E fa) σ H fun x H1 => ∃ d o kvs, x = .ref d ∧ H1 d = some (.frz o (.dK kvs)) ∧ R (J d o kvs) H1 := by
  obtain ⟨Z, es, s, hv, k⟩ := h
  unfold tLk
  let n : Sl × List Sl → Ro (List D × List Sl) := fun p => match p.1 with
    | .fz (.dk kvs) => .ok (kvs.map sel, p.2)
    | _ => .stuck
  refine re_frz (RE.next (ts := []) (n := n) s hv (by rw [List.append_nil]; exact k) fun r Z1 H1 es1 v fp s1 hv1 k1 => ?_)
  change Kon K E σ Z1 H1 _ (match r with | .fz (.dk kvs) => .ok (kvs.map sel, ssOf es1) | _ => .stuck) _ _ at k1
  split at k1
  · rename_i kvs
    obtain ⟨y, y1, y2, y3⟩ := s1.ok ⟨some v, .fz (.dk kvs), fp⟩ (by simp)
    cases y1
    obtain ⟨a, gs, rfl, hz, hk, hs⟩ := y2.dk_at
    refine ⟨a, gs, rfl, ?_⟩
    rcases s1.sub.fz a _ hz id with hd | ⟨_, o, hd⟩
    · refine .inl ⟨hd, fun o => ⟨a, o, gs, rfl, upd_same, ?_⟩⟩
      obtain ⟨s2, st⟩ := s1.lock (o := o) hz hd trivial
      exact k1 Z1 _ es1 [] (st.less fun c m => by rw [List.append_nil] at m; exact fps_app.mpr (.inl m)) s2.bare hv1 rfl rfl _ _ (lkIn_at ⟨_, hz⟩ upd_same) (hJ hk hs)
    · refine .inr ⟨o, hd, a, o, gs, rfl, hd, ?_⟩
      exact k1 Z1 H1 es1 [] (Step.refl fun c m => by rw [List.append_nil] at m; exact fps_app.mpr (.inl m)) s1.bare hv1 rfl rfl _ _ (lkIn_at ⟨_, hz⟩ hd) (hJ hk hs)
  · exact k1.elim
theorem ri_keys {fa : FE} {R : It → Hp → Prop} (h : RI K E (iDictF selK fa) σ H R) : iKeys (tLk (RE K E fa)) σ H R := by
  obtain ⟨Z, es, s, hv, k⟩ := h
  have := ri_dict (J := Itk) (fun a b => walk_keys a b) ⟨Z, es, s, hv, k⟩
  unfold tLk at this
  unfold iKeys tLk
  obtain ⟨Z, es, s, hv, k⟩ := this
  refine ⟨Z, es, s, hv, k.mono fun a Z' H' es' us e q v hvv => ?_⟩
  obtain ⟨d, kvs, e1, q⟩ := q v hvv
  refine ⟨d, kvs, e1, ?_⟩
  rcases q with ⟨h1, q⟩ | ⟨o, h1, q⟩
  · refine .inl ⟨h1, fun o => ?_⟩
    obtain ⟨d', o', kvs', e2, h2, r⟩ := q o
    exact ⟨d', o', e2, .inl ⟨kvs', h2, r⟩⟩
  · obtain ⟨d', o', kvs', e2, h2, r⟩ := q
    exact .inr ⟨o, h1, d', o', e2, .inl ⟨kvs', h2, r⟩⟩
end
section
variable {X : Cx} {E : EW} {fa : FE} {tg e : Expr}
end
section
variable {ss : List Sl} {kvs : List (Key × D)} {sel : Key × D → D} {fa : FE}
def cDict (sel : Key × D → D) (p : Sl × List Sl) : Ro (List D × List Sl) := match p.1 with
  | .fz (.dk kvs) => .ok (kvs.map sel, p.2)
  | _ => .stuck
theorem e_idict : iDictF sel fa ss = (ffrz fa ss).bind (cDict sel) := rfl
theorem e_cdict : cDict sel (.fz (.dk kvs), ss) = .ok (kvs.map sel, ss) := rfl
end
end Mi
namespace Mi
open PySem PySem.Spec PyProof.Rows L2 Rt
end Mi
namespace Mi
open PySem PySem.Spec PyProof.Rows L2 Rt
section
variable {K : PySem.W.Frag} {E : EW} {σ : L2.St} {Z H : Hp} {Q : VK} {fa fk : FA} {r : List V → List V → Hp → VK → Prop} {op : List (Tg × D) → List (Tg × D) → Option Sl} {rs ws ss : List Sl}
end
section
variable {K : PySem.W.Frag} {t u : Tg} {ds : List D} {kvs : List (Key × D)}
theorem call_lenDR {X : Cx} : CallR X (.builtin "len") (fun xs H Q => ∃ a kvs, xs = [V.ref a] ∧ Rd H a (.dK kvs) ∧ Q (.int kvs.length) H) := by
  intro pins s σ H xs us Q I r h
  obtain ⟨a, kvs, rfl, ha, q⟩ := h
  rw [Vals.ref1 r]
  exact d_len I ha fun t s' I' => ⟨.int kvs.length, H, I', ⟨t, rfl⟩, q⟩
def rLenW (K : PySem.W.Frag) : List V → Hp → VK → Prop := fun xs H Q => rLenU K xs H Q ∨ ∃ a kvs, xs = [V.ref a] ∧ Rd H a (.dK kvs) ∧ Q (.int kvs.length) H
theorem call_lenW {X : Cx} : CallR X (.builtin "len") (rLenW X.K) := call_lenU.or call_lenDR
def opLen2 : List (Tg × D) → Option Sl
  | [(_, .dk kvs)] => some (.fz (.int (kvs.length : Nat)))
  | xs => opLen xs
theorem dk_len {gs : List (Key × V)} (h : gs.map (·.1) = kvs.map (·.1)) : gs.length = kvs.length := by have := congrArg List.length h; simpa using this
theorem op_len2_ok : OpN K (rLenW K) opLen2 := by
  intro Z H vs xs res Q s hs h k
  unfold opLen2 at h
  split at h
  · cases h
    cases hs with
    | cons h1 hs =>
      cases hs
      obtain ⟨f, h1⟩ := h1
      obtain ⟨a, gs, rfl, hr, hk, fr⟩ := rep_dkR s h1
      exact .inr ⟨a, gs, rfl, hr, by rw [dk_len hk]; exact nl s k (.int _)⟩
  · exact .inl (op_len_ok s hs h k)
theorem e_lenD : opLen2 [(t, .dk kvs)] = some (.fz (.int (kvs.length : Nat))) := rfl
theorem e_lenL2 : opLen2 [(t, .lst ds)] = some (.fz (.int (ds.length : Nat))) := rfl
theorem e_lenT2 : opLen2 [(t, .tup ds)] = some (.fz (.int (ds.length : Nat))) := rfl
theorem e_lenR2 {xs : List Int} : opLen2 [(t, .scr xs)] = some (.fz (.int (xs.length : Nat))) := rfl
theorem e_lenS2 {x : Str} : opLen2 [(t, .str x)] = if x.length ≤ sizeLine then some (.fz (.int (x.length : Nat))) else none := rfl
theorem freps_keys {Z : Hp} : ∀ {gs : List (Key × V)} {kvs : List (Key × D)}, gs.map (·.1) = kvs.map (·.1) → FReps K Z (gs.map fun kv => kV kv.1) (kvs.map selK)
  | [], [], _ => .nil
  | g :: gs, k :: kvs, h => by
    simp only [List.map_cons, List.cons.injEq] at h
    have e : kV g.1 = kV k.1 := by rw [h.1]
    exact .cons (by show FRep K Z (kV g.1) (selK k); rw [e]; exact .leaf (leaf_kD _)) (freps_keys h.2)
  | [], _ :: _, h => by cases h
  | _ :: _, [], h => by cases h
def rListW (K : PySem.W.Frag) : List V → Hp → VK → Prop := fun xs H Q => rListOf K xs H Q ∨ ∃ a kvs, xs = [V.ref a] ∧ Rd H a (.dK kvs) ∧ ∀ p, H p = none → Q (.ref p) (upd H p (.lst (kvs.map fun kv => kV kv.1)))
theorem call_listW {X : Cx} (hc : X.calm = true) : CallR X (.type "list") (rListW X.K) := call_listU.or (call_listD hc)
def opList2 : List (Tg × D) → Option Sl
  | [(_, .dk kvs)] => some (.ow .o1 (.lst (kvs.map selK)))
  | xs => opList xs
theorem op_list2_ok : OpN K (rListW K) opList2 := by
  intro Z H vs xs res Q s hs h k
  unfold opList2 at h
  split at h
  · cases h
    cases hs with
    | cons h1 hs =>
      cases hs
      obtain ⟨f, h1⟩ := h1
      obtain ⟨a, gs, rfl, hr, hk, fr⟩ := rep_dkR s h1
      exact .inr ⟨a, gs, rfl, hr, fun p np => k _ _ _ _ (New.o1 s np rfl rfl (freps_keys hk))⟩
  · exact .inl (op_list_ok s hs h k)
theorem e_list2D : opList2 [(t, .dk kvs)] = some (.ow .o1 (.lst (kvs.map selK))) := rfl
theorem e_list2L : opList2 [(t, .lst ds)] = if t.flat = true then some (.ow .o1 (.lst ds)) else none := rfl
theorem e_list2T : opList2 [(t, .tup ds)] = if t.flat = true then some (.ow .o1 (.lst ds)) else none := rfl
end
end Mi
namespace Mi
open PySem PySem.Spec PyProof.Rows L2 Rt
section
variable {prog : Program} {w : World} {A : Around}
end
section
variable {X : Cx} {a : Expr} {ta : TE} {p p2 q pos : Pos}
end
section
variable {K : PySem.W.Frag} {E : EW}
end
end Mi
namespace Mi
open PySem PySem.Spec PyProof.Rows L2 Rt
def signsD (x : Str) : List D := x.cps.toList.map fun c => .str ⟨#[c]⟩
def zipD (xs ys : List D) : List D := xs.zipWith (fun a b => .tup [a, b]) ys
def cAnyW (p : Sl × List Sl) : Ro (List D × List Sl) := match p.1 with
  | .fz (.lst xs) => .ok (xs, p.2)
  | .fz (.tup xs) => .ok (xs, p.2)
  | .fz (.dk kvs) => .ok (kvs.map selK, p.2)
  | .fz (.str x) => .ok (signsD x, p.2)
  | _ => .stuck
def iAnyF (fa : FE) : FI := fun ss => (ffrz fa ss).bind cAnyW
def cStrW (p : Sl × List Sl) : Ro (List D × List Sl) := match p.1 with
  | .fz (.str x) => .ok (signsD x, p.2)
  | _ => .stuck
def iStrF (fa : FE) : FI := fun ss => (ffrz fa ss).bind cStrW
def cZip2 (xs : List D) (q : Sl × List Sl) : Ro (List D × List Sl) := match q.1 with
  | .fz (.lst ys) => .ok (zipD xs ys, q.2)
  | _ => .stuck
def cZip1 (fb : FE) (p : Sl × List Sl) : Ro (List D × List Sl) := match p.1 with
  | .fz (.lst xs) => (ffrz fb p.2).bind (cZip2 xs)
  | _ => .stuck
def iZipF (fa fb : FE) : FI := fun ss => (ffrz fa ss).bind (cZip1 fb)
section
variable {K : PySem.W.Frag} {E : EW} {σ : L2.St} {Z H : Hp} {es ts : List Ent} {fa fb : FE} {R : It → Hp → Prop}
theorem walk_str (x : Str) : Walk K Z (fun _ => none) (Its x) (signsD x) := by
  have hl : (signsD x).length = x.cps.size := by simp [signsD]
  refine ⟨fun i Z' H' le su _ hi => by rw [hl] at hi; exact hi, fun Z' H' le su _ => by rw [hl]; exact Nat.le_refl _, fun i Z' H' v H'' d le su _ hd y => ?_⟩
  obtain ⟨e, c, h1, rfl⟩ := y
  subst e
  unfold signsD at hd
  rw [List.getElem?_map, Array.getElem?_toList, h1] at hd
  cases hd
  exact ⟨Z', New.leaf su (.str _)⟩
theorem ri_str (h : RI K E (iStrF fa) σ H R) : iStr (RE K E fa) σ H R := by
  obtain ⟨Z, es, s, hv, k⟩ := h
  refine re_frz (RE.next (ts := []) (n := cStrW) s hv (by rw [List.append_nil]; exact k) fun r Z1 H1 es1 v fp s1 hv1 k1 => ?_)
  unfold cStrW at k1
  dsimp only at k1
  split at k1
  · rename_i x
    obtain ⟨y, y1, y2, y3⟩ := s1.ok ⟨some v, .fz (.str x), fp⟩ (by simp)
    cases y1
    cases y2.leaf_of (d := .str x) rfl
    exact ⟨x, rfl, fin_i s1 hv1 (walk_str x) k1⟩
  · exact k1.elim
def iAny (K : PySem.W.Frag) (t : TE) : TI := fun σ H R => iSeq K t σ H R ∨ iKeys (tLk t) σ H R ∨ iStr t σ H R
theorem ri_any (h : RI K E (iAnyF fa) σ H R) : iAny K (RE K E fa) σ H R := by
  obtain ⟨Z, es, s, hv, k⟩ := h
  unfold iAnyF at k
  cases hf : ffrz fa (ssOf es) with
  | stuck => rw [hf] at k; exact k.elim
  | exc c fs ss => rw [hf] at k; exact .inl (ri_seq ⟨Z, es, s, hv, by unfold iSeqF; rw [hf]; exact k⟩)
  | ok p =>
    obtain ⟨r, s1⟩ := p
    rw [hf] at k
    cases r with
    | fz d =>
      cases d with
      | lst xs => exact .inl (ri_seq ⟨Z, es, s, hv, by unfold iSeqF; rw [hf]; exact k⟩)
      | tup xs => exact .inl (ri_seq ⟨Z, es, s, hv, by unfold iSeqF; rw [hf]; exact k⟩)
      | dk kvs => exact .inr (.inl (ri_keys ⟨Z, es, s, hv, by unfold iDictF; rw [hf]; exact k⟩))
      | str x => exact .inr (.inr (ri_str ⟨Z, es, s, hv, by unfold iStrF; rw [hf]; exact k⟩))
      | _ => exact k.elim
    | _ => exact k.elim
theorem zip_get {xs ys : List D} {i : Nat} {d : D} (h : (zipD xs ys)[i]? = some d) : ∃ x y, xs[i]? = some x ∧ ys[i]? = some y ∧ d = .tup [x, y] := by
  unfold zipD at h
  rw [List.getElem?_zipWith] at h
  cases e1 : xs[i]? with
  | none => rw [e1] at h; cases h
  | some x =>
    cases e2 : ys[i]? with
    | none => rw [e1, e2] at h; cases h
    | some y => rw [e1, e2] at h; cases h; exact ⟨x, y, rfl, rfl, rfl⟩
theorem zip_len (xs ys : List D) : (zipD xs ys).length = min xs.length ys.length := by simp [zipD]
theorem walk_zip {L : Hp} {a b : Addr} {vs ws : List V} {ds xs : List D} (h : ∀ Z' H', Le Z Z' → SubM K Z' H' → SqL K H' a vs) (hs : FReps K Z vs ds) (g : ∀ Z' H', Le Z Z' → SubM K Z' H' → SqL K H' b ws) (gs : FReps K Z ws xs) : Walk K Z L (Itz K a b) (zipD ds xs) := by
  have l1 := hs.len
  have l2 := gs.len
  refine ⟨fun i Z' H' le su _ hi => ?_, fun Z' H' le su _ => ?_, fun i Z' H' x H'' d le su _ hd y => ?_⟩
  · rw [zip_len] at hi
    exact ⟨vs, ws, vs[i]'(by omega), ws[i]'(by omega), h Z' H' le su, g Z' H' le su, List.getElem?_eq_getElem (by omega), List.getElem?_eq_getElem (by omega)⟩
  · refine ⟨vs, ws, h Z' H' le su, g Z' H' le su, ?_⟩
    rw [zip_len]; omega
  · obtain ⟨T, u, w, rfl, hT, rfl, y1, y2⟩ := y
    obtain ⟨e1, e2, g1, g2, rfl⟩ := zip_get hd
    obtain ⟨u', h1, h2⟩ := hs.get g1
    obtain ⟨w', h3, h4⟩ := gs.get g2
    have q1 := y1 vs (h Z' H' le su)
    have q2 := y2 ws (g Z' H' le su)
    rw [h1] at q1; cases q1
    rw [h3] at q2; cases q2
    exact ⟨_, New.fzo su hT (k := .tup) rfl rfl (.cons (h2.mono le) (.cons (h4.mono le) .nil))⟩
theorem ri_zip (h : RI K E (iZipF fa fb) σ H R) : iZip K (tCons (RE K E fa) (tCons (RE K E fb) tNil)) σ H R := by
  obtain ⟨Z, es, s, hv, k⟩ := h
  refine re_frz (RE.next (ts := []) (n := cZip1 fb) s hv (by rw [List.append_nil]; exact k) fun r Z1 H1 es1 v fp s1 hv1 k1 => ?_)
  unfold cZip1 at k1
  dsimp only at k1
  split at k1
  · rename_i xs
    refine re_frz (RE.next (n := cZip2 xs) s1 hv1 k1 fun r2 Z2 H2 es2 v2 fp2 s2 hv2 k2 => ?_)
    unfold cZip2 at k2
    dsimp only at k2
    split at k2
    · rename_i ys
      obtain ⟨y, y1, y2, y3⟩ := s2.ok ⟨some v, .fz (.lst xs), fp⟩ (by simp)
      obtain ⟨z, z1, z2, z3⟩ := s2.ok ⟨some v2, .fz (.lst ys), fp2⟩ (by simp)
      cases y1
      cases z1
      obtain ⟨a, vs, rfl, q, fr⟩ := y2.lst_at
      obtain ⟨b, ws, rfl, q2, fr2⟩ := z2.lst_at
      exact ⟨a, b, vs, ws, rfl, q _ _ (Le.refl _) s2.sub, q2 _ _ (Le.refl _) s2.sub, fin_i s2 hv2 (walk_zip q fr q2 fr2) k2⟩
    · exact k2.elim
  · exact k1.elim
end
section
variable {X : Cx} {E : EW} {fa fb : FE} {tg e : Expr}
theorem pi_any {t : TE} (h : PE X e t) : PI X tg e (iAny X.K t) := PI.or (pi_seq h) (PI.or (pi_keys (pe_lk h)) (pi_str h))
theorem ci_any (h : PI X tg e (iAny X.K (RE X.K E fa))) : PI X tg e (RI X.K E (iAnyF fa)) := pi_mono h fun _ _ _ z => ri_any z
theorem ci_zip (h : PI X tg e (iZip X.K (tCons (RE X.K E fa) (tCons (RE X.K E fb) tNil)))) : PI X tg e (RI X.K E (iZipF fa fb)) := pi_mono h fun _ _ _ z => ri_zip z
end
section
variable {ss : List Sl} {xs ys : List D} {kvs : List (Key × D)} {x : Str} {fa fb : FE}
theorem e_iany : iAnyF fa ss = (ffrz fa ss).bind cAnyW := rfl
theorem e_anyL : cAnyW (.fz (.lst xs), ss) = .ok (xs, ss) := rfl
theorem e_anyT : cAnyW (.fz (.tup xs), ss) = .ok (xs, ss) := rfl
theorem e_anyD : cAnyW (.fz (.dk kvs), ss) = .ok (kvs.map selK, ss) := rfl
theorem e_anyS : cAnyW (.fz (.str x), ss) = .ok (signsD x, ss) := rfl
theorem e_izip : iZipF fa fb ss = (ffrz fa ss).bind (cZip1 fb) := rfl
theorem e_czip1 : cZip1 fb (.fz (.lst xs), ss) = (ffrz fb ss).bind (cZip2 xs) := rfl
theorem e_czip2 : cZip2 xs (.fz (.lst ys), ss) = .ok (zipD xs ys, ss) := rfl
end
end Mi
namespace Mi
open PySem PySem.Spec PyProof.Rows L2 Rt
section
variable {K : PySem.W.Frag} {E : EW} {E0 : XK} {σ : L2.St} {Z H : Hp} {es us : List Ent} {Q : VK}
end
section
variable {X : Cx} {E0 : XK} {e : Expr} {dvs : List V} {dds : List D} {m : Fm} {ft fk : FA}
end
section
variable {ss rs ws : List Sl} {c : Str} {tg t : Tg} {m : Fm} {n k : Nat} {sp : List (Nat × Nat)} {dds : List D} {ft fk : FA} {i : Int} {b : Bool}
end
end Mi
namespace Mi
open PySem PySem.Spec PyProof.Rows L2 Rt
section
variable {K : PySem.W.Frag} {E : EW} {kp : List Nat} {σ σ1 : L2.St} {Z H Z1 H1 : Hp} {es us es1 : List Ent} {De : Ends}
theorem Sat.ext {p : Addr} {o : HO} (s : Sat K Z H es us) (np : H p = none) : Sat K Z (L2.upd H p o) es us ∧ Step Z H (fpsOf (es ++ us)) Z (L2.upd H p o) (fpsOf (es ++ us)) := by
  have kp : ∀ a w, H a = some w → L2.upd H p o a = some w := fun a w e => by rw [upd_ne (ne_of_none e np)]; exact e
  exact ⟨⟨s.sub.upd np, s.nd, s.zf, fun e m => (s.ok e m).frame (Le.refl _) (fun a _ w e' => kp a w e') rfl⟩, ⟨fun a w e _ => .inl (kp a w e), fun a m => .inl m, Le.refl _, fun _ _ e => .inl e⟩⟩
end
section
variable {X : Cx} {E : EW} {kp : List Nat} {ft : FA} {st : Stmt}
end
section
variable {ss rs : List Sl} {is : List Nat} {i : Nat} {r : Sl} {ft : FA} {d : D} {t : Tg} {j : Nat}
end
end Mi
namespace Mi
open PySem PySem.Spec PyProof.Rows L2 Rt
def deqD (x y : D) : Option Bool := (toPD x).bind fun a => (toPD y).bind fun b => if (SeqAt.shaped a && SeqAt.shaped b) = true then some (PyData.eqv a b) else none
def hitK (ls : List (Key × D)) : List (Key × D) → Option Bool
  | [] => some true
  | p :: r => match getK ls p.1 with
    | none => some false
    | some y => (deqD p.2 y).bind fun a => (hitK ls r).map (a && ·)
def eqKK (ks ls : List (Key × D)) : Option Bool := (hitK ls ks).map (ks.length == ls.length && ·)
def opEqK (t : Tg) (x : D) (u : Tg) (y : D) : Option Sl := match x, y with
  | .dk ks, .dk ls => (eqKK ks ls).map fun b => .fz (.bl b)
  | x, y => opEq t x u y
def opNeK (t : Tg) (x : D) (u : Tg) (y : D) : Option Sl := match x, y with
  | .dk ks, .dk ls => (eqKK ks ls).map fun b => .fz (.bl (!b))
  | x, y => opNe t x u y
inductive HitV (K : PySem.W.Frag) (H : Hp) (ls : List (Key × V)) : List (Key × V) → Bool → Prop
  | nil : HitV K H ls [] true
  | miss {k v r} : valV ls k = none → HitV K H ls ((k, v) :: r) false
  | hit {k v y r p q b} : valV ls k = some y → Dp K H v p → Dp K H y q → SeqAt.shaped p = true → SeqAt.shaped q = true → HitV K H ls r b → HitV K H ls ((k, v) :: r) (PyData.eqv p q && b)
def rDkK (K : PySem.W.Frag) (neg : Bool) : R2 := fun x y H Q => ∃ a b ks ls r, x = .ref a ∧ y = .ref b ∧ Rd H a (.dK ks) ∧ Rd H b (.dK ls) ∧ HitV K H ls ks r ∧ Q (.bl (neg ^^ (ks.length == ls.length && r))) H
def rEqK (K : PySem.W.Frag) : R2 := fun x y H Q => rEqU K x y H Q ∨ rDkK K false x y H Q
def rNeK (K : PySem.W.Frag) : R2 := fun x y H Q => rNeU K x y H Q ∨ rDkK K true x y H Q
theorem hits_ofV {X : Cx} {pins : List (Addr × Obj)} {σ : L2.St} {H : Hp} {s : Shared} (I : L2.Inv X pins σ H s) {A : Around} (hu : A.units + 64 < cLine) {ls : List (Key × V)} {vb : List (Key × Value)} (rb : KV ls vb) {ks : List (Key × V)} {va : List (Key × Value)} {r : Bool}
    (h : HitV X.K H ls ks r) (ra : KV ks va) : PySem.W.KeqHits A s vb va r := by
  unfold KV at ra
  induction h generalizing va with
  | nil => cases ra; exact .nil
  | @miss k v r hn =>
    cases ra with
    | @cons _ q _ qs h1 t =>
      obtain ⟨key, u⟩ := q
      obtain rfl : k = key := h1.1
      have z := rb.val k
      rw [hn] at z
      exact .miss z.none_of
  | @hit k v y r p q b hy dv dy sp sq _ ih =>
    cases ra with
    | @cons _ q' _ qs h1 t =>
      obtain ⟨key, u⟩ := q'
      obtain rfl : k = key := h1.1
      have z := rb.val k
      rw [hy] at z
      obtain ⟨w, hw, rw'⟩ := z.some_of
      obtain ⟨as, r1⟩ := Dp.reads I _ _ _ dv h1.2
      obtain ⟨bs, r2⟩ := Dp.reads I _ _ _ dy rw'
      exact .hit hw (SeqAt.eqAt_reads p q A s u w as bs r1 r2 (SeqAt.canLay_of_shaped sp) (SeqAt.canLay_of_shaped sq) (SeqAt.room_of_shaped sp hu)) (ih t)
theorem op_dkEq {X : Cx} (hu : X.A.units + 65 < cLine) : OpR X (compareOp .Eq) (rDkK X.K false) := by
  intro pins s σ H x y v u Q I rx ry h
  obtain ⟨a, b, ks, ls, r, rfl, rfl, ha, hb, hh, q⟩ := h
  cases (show v = Value.ref a from rx)
  cases (show u = Value.ref b from ry)
  obtain ⟨_, ya, va, ra, da⟩ := dk_rd I.hok ha
  obtain ⟨_, yb, vb, rb, db⟩ := dk_rd I.hok hb
  refine PySem.W.keq_eq ya yb da db (by omega) (fun _ => hits_ofV I (by show X.A.units + 1 + 64 < cLine; omega) rb hh ra) ⟨.bl _, H, I, ?_, q⟩
  rw [← ra.length, ← rb.length, Bool.false_xor]; rfl
theorem op_dkNe {X : Cx} (hu : X.A.units + 65 < cLine) : OpR X (compareOp .NotEq) (rDkK X.K true) := by
  intro pins s σ H x y v u Q I rx ry h
  obtain ⟨a, b, ks, ls, r, rfl, rfl, ha, hb, hh, q⟩ := h
  cases (show v = Value.ref a from rx)
  cases (show u = Value.ref b from ry)
  obtain ⟨_, ya, va, ra, da⟩ := dk_rd I.hok ha
  obtain ⟨_, yb, vb, rb, db⟩ := dk_rd I.hok hb
  refine PySem.W.keq_ne ya yb da db (by omega) (fun _ => hits_ofV I (by show X.A.units + 1 + 64 < cLine; omega) rb hh ra) ⟨.bl _, H, I, ?_, q⟩
  rw [← ra.length, ← rb.length, Bool.true_xor]; rfl
theorem op_eqK {X : Cx} (hu : X.A.units + 65 < cLine) : OpR X (compareOp .Eq) (rEqK X.K) := (op_eqU (by omega)).or (op_dkEq hu)
theorem op_neK {X : Cx} (hu : X.A.units + 65 < cLine) : OpR X (compareOp .NotEq) (rNeK X.K) := (op_neU (by omega)).or (op_dkNe hu)
section
variable {K : PySem.W.Frag}
theorem hitV_of {H Z : Hp} (hz : ∀ {v d p}, FRep K Z v d → toPD d = some p → Dp K H v p) {gl : List (Key × V)} {ls : List (Key × D)} (e1 : gl.map (·.1) = ls.map (·.1)) (h1 : FReps K Z (gl.map (·.2)) (ls.map (·.2))) :
    ∀ {gs : List (Key × V)} {ks : List (Key × D)} {r : Bool}, gs.map (·.1) = ks.map (·.1) → FReps K Z (gs.map (·.2)) (ks.map (·.2)) → hitK ls ks = some r → HitV K H gl gs r
  | [], [], _, _, _, h => by cases h; exact .nil
  | (a, v) :: gs, (b, d) :: ks, r, e, hs, h => by
    simp only [List.map_cons, List.cons.injEq] at e hs
    obtain ⟨rfl, e⟩ := e
    cases hs with
    | cons rv t =>
      unfold hitK at h
      rcases getK_rel (k := a) e1 h1 with ⟨n1, n2⟩ | ⟨w, y, g1, g2, g3⟩
      · simp only [n2] at h; cases h; exact .miss n1
      · simp only [g2] at h
        obtain ⟨c, h2, h3⟩ := Option.bind_eq_some_iff.mp h
        obtain ⟨r', h4, rfl⟩ := Option.map_eq_some_iff.mp h3
        unfold deqD at h2
        obtain ⟨p, e3, e4⟩ := Option.bind_eq_some_iff.mp h2
        obtain ⟨q, e5, e6⟩ := Option.bind_eq_some_iff.mp e4
        split at e6
        · rename_i sh
          rw [Bool.and_eq_true] at sh
          cases e6
          exact .hit g1 (hz rv e3) (hz g3 e5) sh.1 sh.2 (hitV_of hz e1 h1 e t h4)
        · cases e6
  | [], _ :: _, _, e, _, _ => by cases e
  | _ :: _, [], _, e, _, _ => by cases e
theorem dkK_ok {Z H : Hp} {t u : Tg} {v w : V} {fp fq : List Addr} {ks ls : List (Key × D)} {b n : Bool} {Q : VK} (s : SubM K Z H) (h1 : Rep K Z H t v (.dk ks) fp) (h2 : Rep K Z H u w (.dk ls) fq) (e : eqKK ks ls = some b) (k : Q (.bl (n ^^ b)) H) : rDkK K n v w H Q := by
  obtain ⟨r, e1, rfl⟩ := Option.map_eq_some_iff.mp e
  obtain ⟨a, gs, rfl, ha, k1, f1⟩ := rep_dkR s h1
  obtain ⟨c, gl, rfl, hc, k2, f2⟩ := rep_dkR s h2
  refine ⟨a, c, gs, gl, r, rfl, rfl, ha, hc, hitV_of (fun h e => dp_of h e) k2 f2 k1 f1 e1, ?_⟩
  rw [show gs.length = ks.length by rw [← List.length_map (f := (·.1)) (as := gs), k1, List.length_map], show gl.length = ls.length by rw [← List.length_map (f := (·.1)) (as := gl), k2, List.length_map]]
  exact k
theorem op_eqK_ok : Op2 K (rEqK K) opEqK := by
  intro Z H t u x y v w fp fq res Q s h1 h2 h k
  unfold opEqK at h
  split at h
  · obtain ⟨b, e, rfl⟩ := Option.map_eq_some_iff.mp h
    exact .inr (dkK_ok s h1 h2 e (by rw [Bool.false_xor]; exact nl s k (.bl b)))
  · exact .inl (op_eq_ok s h1 h2 h k)
theorem op_neK_ok : Op2 K (rNeK K) opNeK := by
  intro Z H t u x y v w fp fq res Q s h1 h2 h k
  unfold opNeK at h
  split at h
  · obtain ⟨b, e, rfl⟩ := Option.map_eq_some_iff.mp h
    exact .inr (dkK_ok s h1 h2 e (by rw [Bool.true_xor]; exact nl s k (.bl _)))
  · exact .inl (op_ne_ok s h1 h2 h k)
end
theorem e_eqKK {t u : Tg} {ks ls : List (Key × D)} : opEqK t (.dk ks) u (.dk ls) = (eqKK ks ls).map fun b => .fz (.bl b) := rfl
theorem e_neKK {t u : Tg} {ks ls : List (Key × D)} : opNeK t (.dk ks) u (.dk ls) = (eqKK ks ls).map fun b => .fz (.bl (!b)) := rfl
theorem e_eqK1 {t u : Tg} {y : D} {i : Int} : opEqK t (.int i) u y = (eqD (.int i) y).map fun b => .fz (.bl b) := rfl
theorem e_eqK2 {t u : Tg} {y : D} {i : Str} : opEqK t (.str i) u y = (eqD (.str i) y).map fun b => .fz (.bl b) := rfl
theorem e_eqK3 {t u : Tg} {y : D} : opEqK t .non u y = (eqD .non y).map fun b => .fz (.bl b) := rfl
theorem e_eqK4 {t u : Tg} {y : D} {i : Bool} : opEqK t (.bl i) u y = (eqD (.bl i) y).map fun b => .fz (.bl b) := rfl
theorem e_eqK5 {t u : Tg} {y : D} {i : List D} : opEqK t (.lst i) u y = (eqD (.lst i) y).map fun b => .fz (.bl b) := rfl
theorem e_eqK6 {t u : Tg} {y : D} {i : List D} : opEqK t (.tup i) u y = (eqD (.tup i) y).map fun b => .fz (.bl b) := rfl
theorem e_neK1 {t u : Tg} {y : D} {i : Int} : opNeK t (.int i) u y = (eqD (.int i) y).map fun b => .fz (.bl (!b)) := rfl
theorem e_neK2 {t u : Tg} {y : D} {i : Str} : opNeK t (.str i) u y = (eqD (.str i) y).map fun b => .fz (.bl (!b)) := rfl
theorem e_neK3 {t u : Tg} {y : D} : opNeK t .non u y = (eqD .non y).map fun b => .fz (.bl (!b)) := rfl
theorem e_neK4 {t u : Tg} {y : D} {i : Bool} : opNeK t (.bl i) u y = (eqD (.bl i) y).map fun b => .fz (.bl (!b)) := rfl
theorem e_neK5 {t u : Tg} {y : D} {i : List D} : opNeK t (.lst i) u y = (eqD (.lst i) y).map fun b => .fz (.bl (!b)) := rfl
theorem e_neK6 {t u : Tg} {y : D} {i : List D} : opNeK t (.tup i) u y = (eqD (.tup i) y).map fun b => .fz (.bl (!b)) := rfl
end Mi
namespace Mi
open PySem PySem.Spec PyProof.Rows L2 Rt
def timesS (x : Str) (k : Nat) : Str := ⟨((List.replicate k x.cps.toList).flatten).toArray⟩
theorem fold_rep (a : Array Nat) : ∀ (k : Nat) (b : Array Nat), ((List.replicate k a).foldl (· ++ ·) b).toList = b.toList ++ (List.replicate k a.toList).flatten
  | 0, b => by simp
  | k + 1, b => by
    rw [List.replicate_succ, List.foldl_cons, fold_rep a k (b ++ a), List.replicate_succ, List.flatten_cons, Array.toList_append, List.append_assoc]
theorem txt_mul {x : Str} {k : Nat} (h : 1 ≤ k) (hx : 1 ≤ x.length) : Txt.mul x (k : Int) = timesS x k := by
  unfold Txt.mul timesS
  rw [if_neg (by omega)]
  have hl : ¬ x.length = 0 := by omega
  by_cases e : k = 1
  · subst e
    rw [if_pos (by simp)]
    simp
  · rw [if_neg (by simp; exact ⟨by omega, hl⟩)]
    have := fold_rep x.cps k #[]
    simp only [List.nil_append] at this
    congr 1
    apply Array.toList_inj.mp
    rw [Int.toNat_natCast, this]
def rMulS : R2 := fun x y H Q => ∃ a, ∃ k : Nat, x = .str a ∧ y = .int (k : Int) ∧ 1 ≤ k ∧ 1 ≤ a.length ∧ k < 1000 ∧ a.length < 1000 ∧ Q (.str (timesS a k)) H
theorem op_mulS {X : Cx} : OpR X (binaryOp .Mult) rMulS := by
  intro pins s σ H x y v u Q I rx ry h
  obtain ⟨a, k, rfl, rfl, h1, h2, h3, h4, q⟩ := h
  obtain ⟨t, rfl⟩ := rx
  obtain ⟨t', rfl⟩ := ry
  refine SB.mul ⟨?_, fun _ _ => ?_, fun _ _ => ?_⟩ fun t' tk => ⟨.str (timesS a k), H, I.tok _, ⟨t', by rw [txt_mul h1 h2]⟩, q⟩
  · rw [decide_eq_false (by omega), decide_eq_false (by omega)]; rfl
  · have : (1000 : Int) ≤ (2 ^ 63 - 1) / (k : Int) := by
      rw [Int.le_ediv_iff_mul_le (by omega)]
      omega
    omega
  · have h5 : a.length * k ≤ 1000 * 1000 := Nat.mul_le_mul (by omega) (by omega)
    have h6 : sizeLine = 16777216 := rfl
    unfold Builtin.Str.tooLong
    rw [Int.toNat_natCast]
    exact decide_eq_false (by omega)
def rMulV : R2 := fun x y H Q => rMulU x y H Q ∨ rMulS x y H Q
theorem op_mulV {X : Cx} : OpR X (binaryOp .Mult) rMulV := op_mulU.or op_mulS
def opMul2 (t : Tg) (x : D) (u : Tg) (y : D) : Option Sl := match x, y with
  | .str a, .int k => if 1 ≤ k ∧ k < 1000 ∧ 1 ≤ a.length ∧ a.length < 1000 then some (.fz (.str (timesS a k.toNat))) else none
  | x, y => opMul t x u y
def rAddV (K : PySem.W.Frag) : R2 := fun x y H Q => rAddU K x y H Q ∨ rCatA K x y H Q
theorem op_addV {X : Cx} : OpR X (binaryOp .Add) (rAddV X.K) := op_addU.or op_catA
def isFz : Tg → Bool
  | .fz => true
  | _ => false
def opAdd2 (t : Tg) (x : D) (u : Tg) (y : D) : Option Sl := match x, y with
  | .tup xs, .tup ys => if (isFz t && isFz u) = true ∧ xs.length + ys.length ≤ sizeLine then some (.fz (.tup (xs ++ ys))) else none
  | x, y => opAdd t x u y
section
variable {K : PySem.W.Frag}
theorem op_mul2_ok : Op2 K rMulV opMul2 := by
  intro Z H t u x y v w fp fq res Q s h1 h2 h k
  unfold opMul2 at h
  split at h
  · split at h
    · rename_i a i hc
      cases h
      obtain ⟨c1, c2, c3, c4⟩ := hc
      rw [rep_str s h1, rep_int s h2]
      exact .inr ⟨a, i.toNat, rfl, by rw [Int.toNat_of_nonneg (by omega)], by omega, c3, by omega, c4, nl s k (.str _)⟩
    · cases h
  · exact .inl (op_mul_ok s h1 h2 h k)
theorem op_add2_ok : Op2 K (rAddV K) opAdd2 := by
  intro Z H t u x y v w fp fq res Q s h1 h2 h k
  unfold opAdd2 at h
  split at h
  · split at h
    · rename_i xs ys hc
      cases h
      obtain ⟨hc, hl⟩ := hc
      cases t <;> first | cases hc | skip
      cases u <;> first | cases hc | skip
      obtain ⟨h1, rfl⟩ := h1
      obtain ⟨h2, rfl⟩ := h2
      obtain ⟨a, vs, rfl, ha, f1⟩ := rep_tup (t := .fz) (fp := []) rfl s ⟨h1, rfl⟩
      obtain ⟨b, ws, rfl, hb, f2⟩ := rep_tup (t := .fz) (fp := []) rfl s ⟨h2, rfl⟩
      refine .inr ⟨a, b, vs, ws, rfl, rfl, ha, hb, by rw [f1.len, f2.len]; exact hl, fun e => ?_, fun e1 e2 => ?_, fun _ _ p np => k _ _ _ _ (New.fzo s np rfl rfl (f1.app f2))⟩
      · subst e
        cases f1
        exact k Z H _ [] (New.fz s h2)
      · subst e2
        cases f2
        rw [List.append_nil] at k
        exact k Z H _ [] (New.fz s h1)
    · cases h
  · exact .inl (op_add_ok s h1 h2 h k)
end
theorem e_mul2S {t u : Tg} {a : Str} {k : Int} : opMul2 t (.str a) u (.int k) = if 1 ≤ k ∧ k < 1000 ∧ 1 ≤ a.length ∧ a.length < 1000 then some (.fz (.str (timesS a k.toNat))) else none := rfl
theorem e_mul2I {t u : Tg} {a k : Int} : opMul2 t (.int a) u (.int k) = if CMulW a k then some (.fz (.int (a * k))) else none := rfl
theorem e_mul2L {t u : Tg} {xs : List D} {k : Int} : opMul2 t (.lst xs) u (.int k) = opMul t (.lst xs) u (.int k) := rfl
theorem e_add2T {xs ys : List D} : opAdd2 .fz (.tup xs) .fz (.tup ys) = if xs.length + ys.length ≤ sizeLine then some (.fz (.tup (xs ++ ys))) else none := by
  unfold opAdd2; simp [isFz]
theorem e_add2I {t u : Tg} {a k : Int} : opAdd2 t (.int a) u (.int k) = some (.fz (.int (a + k))) := rfl
theorem e_add2S {t u : Tg} {a k : Str} : opAdd2 t (.str a) u (.str k) = if a.length + k.length ≤ sizeLine then some (.fz (.str (a ++ k))) else none := rfl
theorem e_add2L {t u : Tg} {xs ys : List D} : opAdd2 t (.lst xs) u (.lst ys) = if (t.flat && u.flat) = true ∧ xs.length + ys.length ≤ sizeLine then some (.ow .o1 (.lst (xs ++ ys))) else none := rfl
theorem e_stL0 {t : Tg} {x d : D} {r : List D} : stD t (.lst (x :: r)) (.int 0) d = some (.lst (d :: r)) := by
  show (ixN (x :: r).length 0).map _ = _
  have : ixN (x :: r).length 0 = some 0 := by simp [ixN]
  rw [this]; rfl
theorem e_stL1 {t : Tg} {x y d : D} {r : List D} : stD t (.lst (x :: y :: r)) (.int 1) d = some (.lst (x :: d :: r)) := by
  show (ixN (x :: y :: r).length 1).map _ = _
  have : ixN (x :: y :: r).length 1 = some 1 := by simp [ixN]; omega
  rw [this]; rfl
theorem e_stL2 {t : Tg} {x y z d : D} {r : List D} : stD t (.lst (x :: y :: z :: r)) (.int 2) d = some (.lst (x :: y :: d :: r)) := by
  show (ixN (x :: y :: z :: r).length 2).map _ = _
  have : ixN (x :: y :: z :: r).length 2 = some 2 := by simp [ixN]; omega
  rw [this]; rfl
theorem e_atI4 {α : Type} {x y z w v : α} {r : List α} : atI (x :: y :: z :: w :: v :: r) 4 = some v := atI_nat (j := 4) rfl
theorem e_atI5 {α : Type} {x y z w v u : α} {r : List α} : atI (x :: y :: z :: w :: v :: u :: r) 5 = some u := atI_nat (j := 5) rfl
section
variable {α : Type} {xs : List α} {z : Str} {n m : Nat}
theorem cut_to : cutD xs none (some (n : Int)) = xs.take n := by
  unfold cutD
  rw [HT.sIx_none, HT.sIx_nat, List.drop_zero, Nat.sub_zero]
  rcases Nat.le_total n xs.length with h | h
  · rw [Nat.min_eq_left h]
  · rw [Nat.min_eq_right h, List.take_length, List.take_of_length_le h]
theorem cut_from : cutD xs (some (n : Int)) none = xs.drop n := by
  unfold cutD
  rw [HT.sIx_none, HT.sIx_nat]
  rcases Nat.le_total n xs.length with h | h
  · rw [Nat.min_eq_left h, List.take_of_length_le (by rw [List.length_drop]; exact Nat.le_refl _)]
  · rw [Nat.min_eq_right h, List.drop_length, List.drop_of_length_le h]; simp
theorem cut_mid : cutD xs (some (n : Int)) (some (m : Int)) = (xs.take m).drop n := by
  unfold cutD
  rw [HT.sIx_nat, HT.sIx_nat, List.drop_take]
  rcases Nat.le_total n xs.length with h | h
  · rw [Nat.min_eq_left h]
    rcases Nat.le_total m xs.length with h2 | h2
    · rw [Nat.min_eq_left h2]
    · rw [Nat.min_eq_right h2, List.take_of_length_le (by rw [List.length_drop]; exact Nat.le_refl _), List.take_of_length_le (by rw [List.length_drop]; omega)]
  · rw [Nat.min_eq_right h, List.drop_length, List.drop_of_length_le h]; simp
theorem e_cut0 : cutD xs none none = xs := by
  unfold cutD; rw [HT.sIx_none, HT.sIx_none]; simp
theorem e_cutTo : cutD xs none (some (no_index (OfNat.ofNat n : Int))) = xs.take (OfNat.ofNat n) := cut_to
theorem e_cutTon : cutD xs none (some ((n : Nat) : Int)) = xs.take n := cut_to
theorem e_cutFr : cutD xs (some (no_index (OfNat.ofNat n : Int))) none = xs.drop (OfNat.ofNat n) := cut_from
theorem e_cutFrn : cutD xs (some ((n : Nat) : Int)) none = xs.drop n := cut_from
theorem e_cutFrs : cutD xs (some ((n : Int) + 1)) none = xs.drop (n + 1) := cut_from (n := n + 1)
theorem e_cutMi : cutD xs (some (no_index (OfNat.ofNat n : Int))) (some (no_index (OfNat.ofNat m : Int))) = (xs.take (OfNat.ofNat m)).drop (OfNat.ofNat n) := cut_mid
theorem e_cutMin : cutD xs (some (no_index (OfNat.ofNat n : Int))) (some ((m : Nat) : Int)) = (xs.take m).drop (OfNat.ofNat n) := cut_mid
theorem cutS_is {lo hi : Option Int} : cutS z lo hi = ⟨(cutD z.cps.toList lo hi).toArray⟩ := by
  unfold cutS cutD
  rfl
end
theorem e_slS2 {t : Tg} {z : Str} {lo hi : Option Int} : opSl t (.str z) lo hi = if z.length ≤ sizeLine then some (.fz (.str (cutS z lo hi))) else none := rfl
theorem e_ixS {t u : Tg} {z : Str} {i : Int} : opIx t (.str z) u (.int i) = if z.length ≤ sizeLine then (atI z.cps.toList i).map fun c => .fz (.str ⟨#[c]⟩) else none := rfl
theorem e_nonN : isNonD .non = true := rfl
theorem e_nonL {xs : List D} : isNonD (.lst xs) = false := rfl
theorem e_nonT {xs : List D} : isNonD (.tup xs) = false := rfl
theorem e_nonI {x : Int} : isNonD (.int x) = false := rfl
theorem e_nonS {x : Str} : isNonD (.str x) = false := rfl
theorem e_nonB {x : Bool} : isNonD (.bl x) = false := rfl
theorem e_nonD {xs : List (Key × D)} : isNonD (.dk xs) = false := rfl
theorem e_nonC {c : Str} {fs : List (Str × D)} : isNonD (.ins c fs) = false := rfl
theorem e_kparO {i j : Nat} {t : Tg} {d : D} {b : Sl} {ss : List Sl} : kpar i j [.ow t d, b] ss = if i = j then .stuck else (kset j b ss).seq (cPar i (.ow t d)) := by
  rw [e_kpar]
  by_cases h : i = j
  · simp [h]
  · simp [h]
section
variable {g : FG} {ft : FT} {fe : FE} {vs : List Nat}
theorem comp_go (J : Nat → List D → List Sl → Prop) : ∀ {ds : List D} {k : Nat} {acc : List D} {ss : List Sl}, J k acc ss →
    (∀ i d acc ss, ds[i]? = some d → J (k + i) acc ss → ∃ acc' ss', (∀ c : List D → List Sl → Ro (List D × List Sl), cD1 ft fe c acc vs (g (.fz d) ss) = c acc' ss') ∧ J (k + i + 1) acc' ss') →
    ∃ acc' ss', compD g ft fe vs ds acc ss = .ok (acc', ss') ∧ J (k + ds.length) acc' ss'
  | [], k, acc, ss, h, _ => ⟨acc, ss, rfl, h⟩
  | d :: ds, k, acc, ss, h, st => by
    obtain ⟨acc1, ss1, h1, h2⟩ := st 0 d acc ss rfl h
    rw [e_cD1, h1]
    obtain ⟨a, s, h3, h4⟩ := comp_go J (ds := ds) (k := k + 1) h2 fun i d acc ss q z => by
      have e : k + 1 + i = k + (i + 1) := by omega
      rw [e] at z ⊢
      exact st (i + 1) d acc ss q z
    refine ⟨a, s, h3, ?_⟩
    have e : k + (d :: ds).length = k + 1 + ds.length := by rw [List.length_cons]; omega
    rw [e]; exact h4
theorem comp_filter (p : D → Bool) (φ : D → D) {ss : List Sl} : ∀ {ds acc : List D}, acc.length + ds.length ≤ sizeLine →
    (∀ d ∈ ds, ∀ acc : List D, acc.length < sizeLine → ∀ c : List D → List Sl → Ro (List D × List Sl), cD1 ft fe c acc vs (g (.fz d) ss) = if p d = true then c (acc ++ [φ d]) ss else c acc ss) →
    compD g ft fe vs ds acc ss = .ok (acc ++ (ds.filter p).map φ, ss)
  | [], acc, _, _ => by rw [e_cD0]; simp
  | d :: ds, acc, hl, st => by
    rw [List.length_cons] at hl
    rw [e_cD1, st d List.mem_cons_self acc (by omega)]
    have st' := fun e m => st e (List.mem_cons_of_mem d m)
    by_cases h : p d = true
    · rw [if_pos h, comp_filter p φ (ds := ds) (by rw [List.length_append]; simp; omega) st', List.filter_cons_of_pos h]
      simp
    · rw [if_neg h, comp_filter p φ (ds := ds) (by omega) st', List.filter_cons_of_neg h]
theorem comp_map (φ : D → D) {ss : List Sl} {ds : List D} (hl : ds.length ≤ sizeLine)
    (h : ∀ d ∈ ds, ∀ acc : List D, acc.length < sizeLine → ∀ c : List D → List Sl → Ro (List D × List Sl), cD1 ft fe c acc vs (g (.fz d) ss) = c (acc ++ [φ d]) ss) :
    compD g ft fe vs ds [] ss = .ok (ds.map φ, ss) := by
  have := comp_filter (g := g) (ft := ft) (fe := fe) (vs := vs) (fun _ => true) φ (ss := ss) (ds := ds) (acc := []) (by simpa using hl) fun d m acc ha c => by rw [if_pos rfl]; exact h d m acc ha c
  rw [this, List.nil_append, List.filter_eq_self.mpr fun _ _ => rfl]
end
end Mi
namespace Mi
open PySem PySem.Spec PyProof.Rows L2 Rt
mutual
/-- no dict in it -/
def noDk : D → Bool
  | .dk _ => false
  | .tup xs => noDks xs
  | .tpx xs => noDks xs
  | .tpk xs => noDks xs
  | .lst xs => noDks xs
  | .dt kvs => noDkT kvs
  | .ins _ fs => noDkF fs
  | .err _ fs => noDkF fs
  | .fnv _ _ _ _ ds => noDks ds
  | _ => true
def noDks : List D → Bool
  | [] => true
  | d :: r => noDk d && noDks r
def noDkT : List (List Key × D) → Bool
  | [] => true
  | p :: r => noDk p.2 && noDkT r
def noDkF : List (Str × D) → Bool
  | [] => true
  | p :: r => noDk p.2 && noDkF r
end
/-- no dict below it -/
def lowDk : D → Bool
  | .dk kvs => noDks (kvs.map (·.2))
  | d => noDk d
def slNoDk : Sl → Bool
  | .un => true
  | .al _ => true
  | .fz d => noDk d
  | .ow .o1 d => lowDk d
  | _ => false
def melt (i : Nat) (ss : List Sl) : Option (List Sl) := match ss[i]? with
  | some (.fz (.dk kvs)) => if ((ss.set i .un).all slNoDk && lowDk (.dk kvs)) = true then some (ss.set i (.ow .o1 (.dk kvs))) else none
  | _ => none
def meltO (i : Nat) (o : So) : So := match o with
  | .nx ss => match melt i ss with
    | some ss' => .nx ss'
    | none => .stuck
  | .rt r ss => match melt i ss with
    | some ss' => if slNoDk r = true then .rt r ss' else .stuck
    | none => .stuck
  | .exc c fs ss => .exc c fs ss
  | _ => .stuck
def kforO (i : Nat) (g : FG) (f : FS) (ss : List Sl) : Option Sl → So
  | some (.ow .o1 (.dk kvs)) => meltO i (forD g f (kvs.map selK) (ss.set i (.fz (.dk kvs))))
  | _ => fFor (iAnyF (fvar i)) g f ss
def fForO (i : Nat) (g : FG) (f : FS) : FS := fun ss => kforO i g f ss ss[i]?
def cutZ (Z : Hp) (a : Addr) : Hp := fun b => if b = a then none else Z b
section
variable {K : PySem.W.Frag} {E : EW} {kp : List Nat} {σ : L2.St} {Z H Z' H' Z1 H1 : Hp} {F F1 F' : List Addr} {es ts : List Ent} {a : Addr} {gs : List (Key × V)} {De : Ends}
theorem noDkT_all : ∀ kvs : List (List Key × D), noDkT kvs = noDks (kvs.map (·.2))
  | [] => rfl
  | p :: r => by rw [noDkT, List.map_cons, noDks, noDkT_all r]
theorem noDkF_all : ∀ kvs : List (Str × D), noDkF kvs = noDks (kvs.map (·.2))
  | [] => rfl
  | p :: r => by rw [noDkF, List.map_cons, noDks, noDkF_all r]
theorem noDks_ints : ∀ xs : List Int, noDks (xs.map .int) = true
  | [] => rfl
  | x :: r => by rw [List.map_cons, noDks, noDks_ints r]; rfl
theorem low_parts {d : D} {k : Kd} {ds : List D} (h : lowDk d = true) (e : dview K d = some (k, ds)) : noDks ds = true := by
  cases d <;> cases e
  · simpa [lowDk, noDk] using h
  · simpa [lowDk, noDk] using h
  · simpa [lowDk, noDk] using h
  · simpa [lowDk, noDk] using h
  · exact h
  · have : noDkT _ = true := h
    rwa [noDkT_all] at this
  · have : noDkF _ = true := h
    rwa [noDkF_all] at this
  · exact noDks_ints _
  · have : noDkF _ = true := h
    rwa [noDkF_all] at this
  · simpa [lowDk, noDk] using h
theorem no_low {d : D} (h : noDk d = true) : lowDk d = true := by
  cases d <;> first | exact h | (cases h)
theorem no_view {d : D} {ks : List Key} {ds : List D} (h : noDk d = true) (e : dview K d = some (.dk ks, ds)) : False := by
  cases d <;> first | cases e | skip
  cases h
theorem cut_ne (ha : Z a = some (.dK gs)) {b : Addr} {o : HO} (h : Z b = some o) (n : ∀ g, o ≠ .dK g) : cutZ Z a b = some o := by
  have : b ≠ a := fun z => by subst z; rw [ha] at h; cases h; exact n _ rfl
  unfold cutZ; rw [if_neg this]; exact h
theorem sqw_cut (ha : Z a = some (.dK gs)) {k : Kd} {b : Addr} {vs : List V} (h : SqW K Z k b vs) : SqW K (cutZ Z a) k b vs := by
  cases k with
  | tup => exact h.imp id fun ⟨b, h1, h2⟩ => ⟨b, cut_ne ha h1 (fun g z => by cases z), h2⟩
  | tpx => obtain ⟨b, h1, h2⟩ := h; exact ⟨b, cut_ne ha h1 (fun g z => by cases z), h2⟩
  | tpk => exact cut_ne ha h (fun g z => by cases z)
  | scr => exact h
  | err C ns =>
    obtain ⟨dx, fs, h1, h2, h3, h4⟩ := h
    exact ⟨dx, fs, cut_ne ha h1 (fun g z => by cases z), cut_ne ha h2 (fun g z => by cases z), h3, h4⟩
  | fnv f c q ws => exact ⟨h.1, cut_ne ha h.2.1 (fun g z => by cases z), h.2.2⟩
  | _ => exact h.elim
mutual
theorem frep_cut (ha : Z a = some (.dK gs)) : ∀ {v d}, FRep K Z v d → noDk d = true → FRep K (cutZ Z a) v d
  | _, _, .leaf h, _ => .leaf h
  | _, d, .node (a := b) (o := o) h1 h2 h3 h4, n => by
    by_cases q : b = a
    · subst q
      rw [ha] at h1
      cases h1
      cases h2
      exact (no_view n h3).elim
    · exact .node (a := b) (o := o) (by unfold cutZ; rw [if_neg q]; exact h1) h2 h3 (freps_cut ha h4 (low_parts (no_low n) h3))
  | _, d, .wr h1 h3 h4, n => .wr (sqw_cut ha h1) h3 (freps_cut ha h4 (low_parts (no_low n) h3))
theorem freps_cut (ha : Z a = some (.dK gs)) : ∀ {vs ds}, FReps K Z vs ds → noDks ds = true → FReps K (cutZ Z a) vs ds
  | _, _, .nil, _ => .nil
  | _, _, .cons h t, n => by
    rw [noDks, Bool.and_eq_true] at n
    exact .cons (frep_cut ha h n.1) (freps_cut ha t n.2)
end
theorem sk_more {i : Nat} {o : So} (k : SK K E kp σ Z H F o De) : SK K E (i :: kp) σ Z H F o De := by
  have kk : ∀ {σ'}, Kept (i :: kp) σ σ' → Kept kp σ σ' := fun h => ⟨h.1, fun j m => h.2 j (List.mem_cons_of_mem _ m)⟩
  cases o with
  | nx ss => exact fun Z' H' es' a b c d => k Z' H' es' a b (kk c) d
  | bk ss => exact fun Z' H' es' a b c d => k Z' H' es' a b (kk c) d
  | ct ss => exact fun Z' H' es' a b c d => k Z' H' es' a b (kk c) d
  | rt r ss => exact fun Z' H' es' v fv a b c d => k Z' H' es' v fv a b (kk c) d
  | exc c fs ss => exact fun Z' H' es' d a b c e => k Z' H' es' d a b (kk c) e
  | stuck => exact k
/-- the step back: what was frozen and locked is owned again -/
theorem Sat.melt {i : Nat} {kvs : List (Key × D)} {od : Obj} (s : Sat K Z' H' es ts) (he : es[i]? = some ⟨some (.ref a), .fz (.dk kvs), []⟩) (ha : Z' a = some (.dK gs))
    (hn : ∀ j e, es[j]? = some e → j ≠ i → slNoDk e.s = true) (hl : lowDk (.dk kvs) = true) (ht : ∀ e ∈ ts, slNoDk e.s = true) :
    Sat K (cutZ Z' a) (upd H' a (.dK gs)) (es.set i ⟨some (.ref a), .ow .o1 (.dk kvs), [a]⟩) ts ∧ (∀ b ∈ fpsOf (es.set i ⟨some (.ref a), .ow .o1 (.dk kvs), [a]⟩ ++ ts), b = a ∨ b ∈ fpsOf (es ++ ts)) := by
  have hi : i < es.length := (List.getElem?_eq_some_iff.mp he).1
  have na : a ∉ fpsOf (es ++ ts) := fun m => by have := s.zf a m; rw [ha] at this; cases this
  have split : ∃ l r, es = l ++ ⟨some (.ref a), .fz (.dk kvs), []⟩ :: r ∧ es.set i ⟨some (.ref a), .ow .o1 (.dk kvs), [a]⟩ = l ++ ⟨some (.ref a), .ow .o1 (.dk kvs), [a]⟩ :: r := by
    refine ⟨es.take i, es.drop (i + 1), ?_, ?_⟩
    · have := (List.getElem?_eq_some_iff.mp he).2
      rw [← this, ← List.drop_eq_getElem_cons hi, List.take_append_drop]
    · rw [List.set_eq_take_append_cons_drop, if_pos hi]
  obtain ⟨l, r, e1, e2⟩ := split
  have f1 : fpsOf (es ++ ts) = fpsOf l ++ fpsOf (r ++ ts) := by rw [e1]; simp [fpsOf, List.flatMap_append]
  have f2 : fpsOf (es.set i ⟨some (.ref a), .ow .o1 (.dk kvs), [a]⟩ ++ ts) = fpsOf l ++ (a :: fpsOf (r ++ ts)) := by rw [e2]; simp [fpsOf, List.flatMap_append]
  have memf : ∀ b ∈ fpsOf (es.set i ⟨some (.ref a), .ow .o1 (.dk kvs), [a]⟩ ++ ts), b = a ∨ b ∈ fpsOf (es ++ ts) := fun b m => by
    rw [f2] at m
    rw [f1]
    rcases List.mem_append.mp m with m | m
    · exact .inr (List.mem_append_left _ m)
    · rcases List.mem_cons.mp m with m | m
      · exact .inl m
      · exact .inr (List.mem_append_right _ m)
  have ne : ∀ {b : Addr} {o : HO}, H' b = some o → b ∈ fpsOf (es ++ ts) → upd H' a (.dK gs) b = some o := fun {b o} h m => by
    have q : b ≠ a := by rintro rfl; exact na m
    rw [upd_ne q]; exact h
  have entv : ∀ {j : Nat} {u : Ent}, es[j]? = some u → ∃ u' : Ent, (es.set i ⟨some (.ref a), .ow .o1 (.dk kvs), [a]⟩)[j]? = some u' ∧ u'.v = u.v := fun {j u} h => by
    by_cases q : i = j
    · subst q
      rw [he] at h; cases h
      exact ⟨_, List.getElem?_set_self hi, rfl⟩
    · exact ⟨u, by rw [List.getElem?_set_ne q]; exact h, rfl⟩
  have entOk : ∀ e ∈ es ++ ts, slNoDk e.s = true → EntOk K (cutZ Z' a) (upd H' a (.dK gs)) (es.set i ⟨some (.ref a), .ow .o1 (.dk kvs), [a]⟩) e := fun e m n => by
    have ok := s.ok e m
    unfold EntOk at ok ⊢
    cases hs : e.s with
    | un => rw [hs] at ok; exact ok
    | fz d =>
      rw [hs] at ok n
      obtain ⟨x, h1, h2, h3⟩ := ok
      exact ⟨x, h1, frep_cut ha h2 n, h3⟩
    | al j =>
      rw [hs] at ok
      obtain ⟨h1, u, x, h2, h3, h4⟩ := ok
      obtain ⟨u', h5, h6⟩ := entv h2
      exact ⟨h1, u', x, h5, h6.trans h3, h4⟩
    | ow t d =>
      rw [hs] at ok n
      obtain ⟨x, h1, h2⟩ := ok
      cases t with
      | fz => cases n
      | nd c => cases n
      | o1 =>
        refine ⟨x, h1, ?_⟩
        rcases h2 with h2 | ⟨b, o, k, vs, ds, g1, g2, g3, g4, g5, g6⟩
        · exact .inl h2
        · have mb : b ∈ fpsOf (es ++ ts) := mem_fps.mpr ⟨e, m, by rw [g6]; exact List.mem_cons_self⟩
          exact .inr ⟨b, o, k, vs, ds, g1, ne g2 mb, g3, g4, freps_cut ha g5 (low_parts n g4), g6⟩
  refine ⟨⟨⟨⟨fun b o h nt => ?_, fun b mm h => ?_⟩, fun P q h => ?_⟩, ?_, fun b m => ?_, fun e m => ?_⟩, memf⟩
  · unfold cutZ at h
    split at h
    · cases h
    · rename_i q
      rw [upd_ne q]; exact s.sub.fz b o h nt
  · unfold cutZ at h
    split at h
    · cases h
    · refine tabZ_keep (tabS_upd (s.sub.tb b mm h) fun o0 h0 => ?_) (fun c o e cd => ?_) (fun _ e => e)
      · rcases s.sub.fz _ _ ha id with z | ⟨_, b, z⟩ <;> rw [z] at h0 <;> cases h0 <;> exact id
      · have : c ≠ a := fun z => by subst z; rw [ha] at e; cases e; exact cd
        unfold cutZ; rw [if_neg this]; exact e
  · obtain ⟨m, e, n⟩ := s.sub.tm P q h
    refine ⟨m, ?_, n⟩
    unfold cutZ
    rw [if_neg (fun z => by rw [z, ha] at e; cases e)]; exact e
  · rw [f2]
    have nd := s.nd
    rw [f1] at nd na
    refine (List.perm_middle.nodup_iff).mpr (List.nodup_cons.mpr ⟨na, nd⟩)
  · unfold cutZ
    rcases memf b m with q | m2
    · rw [if_pos q]
    · have q : b ≠ a := fun e => na (by rw [← e]; exact m2)
      rw [if_neg q]; exact s.zf b m2
  · rcases List.mem_append.mp m with m | m
    · obtain ⟨j, hj, rfl⟩ := List.mem_iff_getElem.mp m
      by_cases q : i = j
      · subst q
        rw [List.getElem_set_self]
        have ok := s.ok _ (List.mem_append_left _ (List.mem_of_getElem? he))
        obtain ⟨x, h1, h2, _⟩ := ok
        cases h1
        obtain ⟨a', gs', q1, q2, q3, q4⟩ := h2.dk_at
        cases q1
        rw [ha] at q2; cases q2
        exact ⟨.ref a, rfl, .inr ⟨a, .dK gs, .dk (gs.map (·.1)), gs.map (·.2), kvs.map (·.2), rfl, upd_same, rfl, by show some (Kd.dk _, _) = _; rw [q3], freps_cut ha q4 (low_parts (K := K) (k := .dk (kvs.map (·.1))) hl rfl), rfl⟩⟩
      · have hj' : j < es.length := by rwa [List.length_set] at hj
        rw [List.getElem_set_ne q]
        exact entOk _ (List.mem_append_left _ (List.getElem_mem hj')) (hn j _ (List.getElem?_eq_getElem hj') (fun z => q z.symm))
    · exact entOk e (List.mem_append_right _ m) (ht e m)
theorem step_back {i : Nat} {kvs : List (Key × D)} {od : Obj} (s : Sat K Z H es []) (hz : Z a = none) (haF : a ∈ F) (hF : F = fpsOf es) (st0 : Step Z H F Z1 H1 F1) (hH1 : ∀ b, b ≠ a → H1 b = H b) (hH1a : ∃ u, H1 a = some u) (st : Step Z1 H1 F1 Z' H' F') {F'' : List Addr} (hf : ∀ b ∈ F'', b = a ∨ b ∈ F') :
    Step Z H F (cutZ Z' a) (upd H' a (.dK gs)) F'' := by
  have st2 := st0.tr st
  refine ⟨fun b o e n => ?_, fun b m => ?_, fun b o e => ?_, fun b o e => ?_⟩
  · have q : b ≠ a := by rintro rfl; exact n haF
    rw [upd_ne q]
    exact st2.keep b o e n
  · rcases hf b m with rfl | m
    · exact .inl haF
    · exact st2.fps b m
  · have q : b ≠ a := by rintro rfl; rw [hz] at e; cases e
    unfold cutZ
    rw [if_neg q]
    exact st2.z b o e
  · unfold cutZ at e
    split at e
    · cases e
    · exact st2.zn b o e
theorem melt_of {i : Nat} {ss ss' : List Sl} (h : melt i ss = some ss') : ∃ kvs, ss[i]? = some (.fz (.dk kvs)) ∧ (ss.set i .un).all slNoDk = true ∧ lowDk (.dk kvs) = true ∧ ss' = ss.set i (.ow .o1 (.dk kvs)) := by
  unfold melt at h
  split at h
  · rename_i kvs e
    split at h
    · rename_i c
      rw [Bool.and_eq_true] at c
      cases h
      exact ⟨kvs, e, c.1, c.2, rfl⟩
    · cases h
  · cases h
theorem all_but {i j : Nat} {ss : List Sl} {e : Sl} (h : (ss.set i .un).all slNoDk = true) (he : ss[j]? = some e) (q : j ≠ i) : slNoDk e = true := by
  rw [List.all_eq_true] at h
  exact h e (List.mem_of_getElem? (i := j) (by rw [List.getElem?_set_ne (fun z => q z.symm)]; exact he))
theorem set_v {i : Nat} {e e' : Ent} (h : es[i]? = some e) (hv : e'.v = e.v) : vsOf (es.set i e') = vsOf es := by
  apply List.ext_getElem?
  intro j
  rw [List.getElem?_map, List.getElem?_map]
  by_cases q : i = j
  · subst q
    rw [List.getElem?_set_self (List.getElem?_eq_some_iff.mp h).1, h]
    show some e'.v = some e.v
    rw [hv]
  · rw [List.getElem?_set_ne q]
theorem set_s {i : Nat} {e' : Ent} : ssOf (es.set i e') = (ssOf es).set i e'.s := List.map_set ..
theorem rs_forO {t : TS} {i : Nat} {g : FG} {f : FS} (hr : ∀ {D σ H}, RS K E (i :: kp) (fFor (iAnyF (fvar i)) g f) D σ H → t D σ H) (h : RS K E kp (fForO i g f) De σ H) : t De σ H ∨ tLock t De σ H := by
  obtain ⟨Z, es, s, hv, k⟩ := h
  unfold fForO kforO at k
  split at k
  · rename_i kvs hss
    rw [List.getElem?_map] at hss
    obtain ⟨u0, hu, hus⟩ := Option.map_eq_some_iff.mp hss
    have mu : u0 ∈ es ++ [] := List.mem_append_left _ (List.mem_of_getElem? hu)
    have ok := s.ok u0 mu
    unfold EntOk at ok
    rw [hus] at ok
    obtain ⟨x, hx, hrep⟩ := ok
    have hrd := rep_dkR s.sub hrep
    rcases hrep with ⟨hl, _⟩ | ⟨a, o, k', vs, ds, rfl, ho, hov, hdv, hfr, hfp⟩
    · cases hl
    cases hdv
    obtain ⟨gs, rfl, hk1, rfl⟩ := oview_dk hov
    have haF : a ∈ fpsOf (es ++ []) := mem_fps.mpr ⟨u0, mu, by rw [hfp]; exact List.mem_cons_self⟩
    have hz : Z a = none := s.zf a haF
    refine .inr ⟨a, .dK gs, ho, trivial, fun od => hr ?_⟩
    have pf := Fzd.modAt es i
    obtain ⟨Z1, s1, st1⟩ := s.freeze pf (Fzd.refl _)
    have e2 : (es.modify i Ent.frz)[i]? = some u0.frz := by rw [List.getElem?_modify_eq, hu]; rfl
    have efz : u0.frz = ⟨some (.ref a), .fz (.dk kvs), []⟩ := by
      show (⟨u0.v, u0.s.frz, []⟩ : Ent) = _
      rw [hus, hx]; rfl
    have ok1 := s1.ok u0.frz (List.mem_append_left _ (List.mem_of_getElem? e2))
    rw [efz] at ok1 e2
    obtain ⟨y, y1, y2, _⟩ := ok1
    cases y1
    obtain ⟨a', gs', q1, q2, q3, q4⟩ := y2.dk_at
    cases q1
    have eg : gs = gs' := by
      rcases s1.sub.fz a _ q2 id with z | ⟨_, b, z⟩
      · rw [ho] at z; cases z; rfl
      · rw [ho] at z; cases z
    subst eg
    obtain ⟨s2, st2⟩ := s1.lock (o := od) q2 ho trivial
    have st0 := st1.tr st2
    have ef : fFor (iAnyF (fvar i)) g f (ssOf (es.modify i Ent.frz)) = forD g f (kvs.map selK) ((ssOf es).set i (.fz (.dk kvs))) := by
      have e3 : ssOf (es.modify i Ent.frz) = (ssOf es).set i (.fz (.dk kvs)) := by
        apply List.ext_getElem?
        intro j
        rw [List.getElem?_map, List.getElem?_set, List.getElem?_map, List.getElem?_modify]
        by_cases hj : i = j
        · subst hj
          rw [if_pos rfl, hu]
          have : i < (ssOf es).length := by rw [List.length_map]; exact (List.getElem?_eq_some_iff.mp hu).1
          rw [if_pos this]
          simp only [if_true]
          show some u0.s.frz = _
          rw [hus]; rfl
        · rw [if_neg hj]
          cases es[j]? <;> simp [hj]
      rw [e3]
      have hi : i < (ssOf es).length := by rw [List.length_map]; exact (List.getElem?_eq_some_iff.mp hu).1
      unfold fFor iAnyF ffrz fvar
      rw [List.getElem?_set_self hi]
      rfl
    have hv2 : vsOf (es.modify i Ent.frz) = σ := by rw [Fzd.vs pf]; exact hv
    refine ⟨Z1, _, s2, hv2, ?_⟩
    rw [ef]
    have hFe : fpsOf (es ++ []) = fpsOf es := by rw [List.append_nil]
    rw [hFe] at haF
    rw [List.append_nil, List.append_nil] at st0
    have vi : ∀ {es' : List Ent} {kvs' : List (Key × D)} {Z' H' : Hp}, Sat K Z' H' es' [] ∨ (∃ w, Sat K Z' H' es' [w]) → Kept (i :: kp) σ (vsOf es') → (ssOf es')[i]? = some (.fz (.dk kvs')) → es'[i]? = some ⟨some (.ref a), .fz (.dk kvs'), []⟩ := fun {es' kvs' Z' H'} sa kd hs => by
      rw [List.getElem?_map] at hs
      obtain ⟨w, hw, hws⟩ := Option.map_eq_some_iff.mp hs
      have h1 := kd.2 i List.mem_cons_self
      rw [← hv, List.getElem?_map, List.getElem?_map, hw, hu] at h1
      have h2 : w.v = some (.ref a) := (Option.some.inj h1).trans hx
      have ok : EntOk K Z' H' es' w := by
        rcases sa with sa | ⟨_, sa⟩
        · exact sa.ok w (List.mem_append_left _ (List.mem_of_getElem? hw))
        · exact sa.ok w (List.mem_append_left _ (List.mem_of_getElem? hw))
      unfold EntOk at ok
      rw [hws] at ok
      obtain ⟨_, _, _, h3⟩ := ok
      rw [hw]
      cases w
      simp only at hws h2 h3
      rw [hws, h2, h3]
    have lockd : ∀ {Z' H' : Hp} {F' : List Addr}, Step Z1 (upd H a (.frz od (.dK gs))) (fpsOf (es.modify i Ent.frz)) Z' H' F' → Z' a = some (.dK gs) ∧ H' a = some (.frz od (.dK gs)) := fun {Z' H' F'} st => by
      refine ⟨st.z _ _ q2, ?_⟩
      have na : a ∉ fpsOf (es.modify i Ent.frz) := fun m => by
        have := s2.zf a (by rw [List.append_nil]; exact m)
        rw [q2] at this; cases this
      rcases st.keep a _ upd_same na with z | ⟨_, z⟩
      · exact z
      · exact (z.no id id).elim
    cases ho2 : forD g f (kvs.map selK) ((ssOf es).set i (.fz (.dk kvs))) with
    | nx ss =>
      rw [ho2] at k
      intro Z' H' es' st sa kd hs
      obtain ⟨l1, l2⟩ := lockd st
      refine ⟨l2, ?_⟩
      unfold meltO at k
      cases hm : melt i ss with
      | none => simp only [hm] at k; exact k.elim
      | some ss' =>
        simp only [hm] at k
        obtain ⟨kvs', m1, m2, m3, rfl⟩ := melt_of hm
        rw [← hs] at m1 m2
        have hi' := vi (.inl sa) kd m1
        obtain ⟨s3, mf⟩ := sa.melt (od := od) hi' l1 (fun j e he q => all_but m2 (by rw [List.getElem?_map, he]; rfl) q) m3 (fun e m => by cases m)
        rw [List.append_nil, List.append_nil] at mf
        have := k (cutZ Z' a) (upd H' a (.dK gs)) _ (step_back (i := i) (kvs := kvs') (od := od) s hz haF rfl st0 (fun b q => upd_ne q) ⟨_, upd_same⟩ st mf) s3 (by rw [set_v (e' := ⟨some (.ref a), .ow .o1 (.dk kvs'), [a]⟩) hi' rfl]; exact ⟨kd.1, fun j m => kd.2 j (List.mem_cons_of_mem _ m)⟩) (by rw [set_s, hs])
        rwa [set_v (e' := ⟨some (.ref a), .ow .o1 (.dk kvs'), [a]⟩) hi' rfl] at this
    | rt r ss =>
      rw [ho2] at k
      intro Z' H' es' v fv st sa kd hs
      obtain ⟨l1, l2⟩ := lockd st
      refine ⟨l2, ?_⟩
      unfold meltO at k
      cases hm : melt i ss with
      | none => simp only [hm] at k; exact k.elim
      | some ss' =>
        simp only [hm] at k
        split at k
        · rename_i hrr
          obtain ⟨kvs', m1, m2, m3, rfl⟩ := melt_of hm
          rw [← hs] at m1 m2
          have hi' := vi (.inr ⟨_, sa⟩) kd m1
          obtain ⟨s3, mf⟩ := sa.melt (od := od) hi' l1 (fun j e he q => all_but m2 (by rw [List.getElem?_map, he]; rfl) q) m3 (fun e m => by rw [List.mem_singleton.mp m]; exact hrr)
          exact k (cutZ Z' a) (upd H' a (.dK gs)) _ v fv (step_back (i := i) (kvs := kvs') (od := od) s hz haF rfl st0 (fun b q => upd_ne q) ⟨_, upd_same⟩ st mf) s3 (by rw [set_v (e' := ⟨some (.ref a), .ow .o1 (.dk kvs'), [a]⟩) hi' rfl]; exact ⟨kd.1, fun j m => kd.2 j (List.mem_cons_of_mem _ m)⟩) (by rw [set_s, hs])
        · exact k.elim
    | exc c fs ss =>
      rw [ho2] at k
      intro Z' H' es' d st sa kd hs hd
      exact k Z' H' es' d (st0.tr st) sa ⟨kd.1, fun j m => kd.2 j (List.mem_cons_of_mem _ m)⟩ hs hd
    | bk ss => rw [ho2] at k; exact k.elim
    | ct ss => rw [ho2] at k; exact k.elim
    | stuck => rw [ho2] at k; exact k.elim
  · exact .inl (hr ⟨Z, es, s, hv, sk_more k⟩)
end
theorem ps_lockor {X : Cx} {st : Stmt} {t : TS} (h : PS X st t) : PS X st (fun D σ H => t D σ H ∨ tLock t D σ H) := by
  have h2 := ps_lock h
  refine ⟨fun pins s σ H D I q => ?_⟩
  rcases q with q | q
  · exact h.run pins s σ H D I q
  · exact h2.run pins s σ H D I q
theorem cs_forO {X : Cx} {E : EW} {kp : List Nat} {st : Stmt} {i : Nat} {g : FG} {f : FS} (ho : ∀ r ss, OnOnly (g r ss)) (h : PS X st (tFor (RI X.K E (iAnyF (fvar i))) (RG X.K E (i :: kp) g) (RS X.K E (i :: kp) f))) : PS X st (RS X.K E kp (fForO i g f)) :=
  ps_mono (ps_lockor h) fun _ _ _ z => rs_forO (fun q => rs_for ho q) z
section
variable {ss : List Sl} {i : Nat} {g : FG} {f : FS} {kvs : List (Key × D)}
theorem e_forO : fForO i g f ss = kforO i g f ss ss[i]? := rfl
theorem e_kforO : kforO i g f ss (some (.ow .o1 (.dk kvs))) = meltO i (forD g f (kvs.map selK) (ss.set i (.fz (.dk kvs)))) := rfl
theorem e_kforF {d : D} : kforO i g f ss (some (.fz d)) = fFor (iAnyF (fvar i)) g f ss := by cases d <;> rfl
theorem e_kforL {xs : List D} : kforO i g f ss (some (.ow .o1 (.lst xs))) = fFor (iAnyF (fvar i)) g f ss := rfl
theorem e_kforA {j : Nat} : kforO i g f ss (some (.al j)) = fFor (iAnyF (fvar i)) g f ss := rfl
end
end Mi
namespace Mi
open PySem PySem.Spec PyProof.Rows L2 Rt
section
variable {K : PySem.W.Frag} {E : EW} {σ : L2.St} {H : Hp} {Q : VK} {v : Nat} {fe : FE}
end
section
variable {ss : List Sl} {v : Nat} {fe : FE} {d : D} {t : Tg}
end
end Mi
namespace Mi
open PySem PySem.Spec PyProof.Rows L2 Rt
end Mi
namespace Mi
open PySem PySem.Spec PyProof.Rows L2 Rt
/-- as FnOk, asked only where no guard is up -/
structure FnG (P : Program) (w : World) (K : PySem.W.Frag) (mg : Str → Option Value) (base : Heap) (CX : CXT) (k : Nat) (f : Addr) (fd : FuncData) (ps : List Str) (sp : Sp) : Prop where
  len : ∀ vs H Q E, sp vs H Q E → vs.length = ps.length
  at_ : ∀ (A : Around), A.guards = some [] → Room k A → ∀ (outer : List Env) (s : Shared) (H : Hp) (args : Args) (us : List Value) (vs : List V) (Q : VK) (E : XK), Env0 P w K mg base A outer s H → BindsTo s fd args (ps.zip us) → Vals vs us → sp vs H Q E →
    codeAny (model P w) A (.call (.ref f) args) (CR CX outer P w H s Q E) s
section
variable {P : Program} {w : World} {K : PySem.W.Frag} {mg : Str → Option Value} {base : Heap} {CX : CXT} {k j : Nat} {f : Addr} {fd : FuncData} {ps : List Str} {sp : Sp}
theorem FnG.of (F : FnOk P w K mg base CX k f fd ps sp) : FnG P w K mg base CX k f fd ps sp := ⟨F.len, fun A _ hr outer s H args us vs Q E => F.run A outer s H args us vs Q E hr⟩
theorem FnG.mono (F : FnG P w K mg base CX j f fd ps sp) (h : j ≤ k) : FnG P w K mg base CX k f fd ps sp := ⟨F.len, fun A hg hr => F.at_ A hg (hr.mono h)⟩
end
section
variable {X : Cx} {CX : CXT} {k : Nat} {f : Addr} {fd : FuncData} {ps : List Str} {sp : Sp} {E : XK} {ds : List Value} {dvs : List V}
end
section
variable {P : Program} {w : World} {K : PySem.W.Frag} {mg : Str → Option Value} {base : Heap} {x qual : Str} {params : Arguments} {body : List Stmt} {scope : Scope} {dvs : List V} {kws : List (Str × V)} {f : Addr} {fd : FuncData}
/-- a def whose body is read where no guard is up -/
theorem fun_okG {CX : CXT} {N ps : List Str} {k : Nat} {sp : Sp} (F : FunD K x qual params body scope dvs kws f fd) (S : FnScope N ps scope) (len : ∀ vs H Q E, sp vs H Q E → vs.length = ps.length)
    (hbody : ∀ (cdv : Value) (A : Around) (outer : List Env) (s : Shared) (H : Hp) (vs : List V) (Q : VK) (E : XK), A.guards = some [] → Room k (A.deeper (envOfC qual scope s.heap.objs.size f cdv)) → sp vs H Q E →
      ∃ t, PSs (cxOf CX P w K mg base N qual scope f cdv A outer s H E) body t ∧ t { nx := fun _ H' => Q .non H', rt := Q } (start N vs) H) : FnG P w K mg base CX (k + 1) f fd ps sp := by
  obtain ⟨oc, od, dV, kV, doc, pm, an, cdv, ct, osl, rfl, lk, hcd, _, _⟩ := F.ex
  refine ⟨len, fun A hG hr outer s H args us vs Q E e0 hb r hsp => ?_⟩
  obtain ⟨t, ht, hq⟩ := hbody cdv A outer s H vs Q E hG (hr.deeper _) hsp
  have stays : ∀ b o, base.get? b = some o → s.heap.get? b = some o := fun b o e => (e0.bs b o e).1
  have KX : K.In s.heap := e0.mod.kin.keeps stays
  have par : ∀ y ∈ ps.zip us, scope.names.lookup y.1 = some .local ∨ (scope.names.lookup y.1 = some .cell ∧ ((cellsFrom (s.heap.objs.size + 1) scope.names []).lookup y.1).isSome = true) := by
    rintro ⟨n, v⟩ hy
    exact (S.par n (List.of_mem_zip hy).1).imp id fun q => ⟨q, PySem.W.cellsFrom_some _ _ _ (.inl q)⟩
  refine codeAny_call_function hr.depth (KX _ _ lk) rfl S.co S.gen rfl (PySem.W.codeRec_of KX hcd) (hb _ _ _ _ (wpAny_newFunctionEnv_cells S.kind par fun env he s1 made => ?_))
  subst he
  refine ⟨(e0.mod.nolimit.keeps stays).keeps made.toInCall.keep, codeAny_func (wpAny_mono (ht.run [] s1 (start N vs) H _ (inv_start S hr.hd e0 (len _ _ _ _ hsp) r made) hq) (fun fl s' out => ?_) fun _ _ out => out)⟩
  have out' : ∀ {σ' : L2.St} {H' : Hp} {v : V} {u : Value}, L2.Inv (cxOf CX P w K mg base N qual scope f cdv A outer s H E) [] σ' H' s' → L2.RelV v u → Q v H' → CE outer P w H s Q u s' := fun J rv q => ⟨_, _, J.os, J.bare, J.base, J.hok, rv, q⟩
  match fl, out with
  | .ret _, ⟨_, _, _, J, rv, q⟩ => exact out' J rv q
  | .next, ⟨_, _, J, q⟩ => exact out' (v := V.non) (u := Value.none) J rfl q
  | .brk, ⟨_, _, _, q⟩ => exact q.elim
  | .cont, ⟨_, _, _, q⟩ => exact q.elim
end
end Mi
namespace Mi
open PySem PySem.Spec PyProof.Rows L2 Rt
section
variable {P : Program} {w : World} {K : PySem.W.Frag} {mg mb : Str → Option Value} {CX : CXT} {k : Nat} {fa a : Addr} {fd : FuncData} {x : Str} {sp : Sp} {s : Shared} {vs : List Value} {ns : List Int}
abbrev listObj (vs : List Value) : Obj := { cls := .type "list", data := .seq vs.toArray }
/-- what the end of the law's call is -/
abbrev Ended (s : Shared) (r : Result) (s' : Shared) : Prop := r = .ok (.ret (.bool true)) ∧ OldK s.heap s'.heap ∧ s'.os = s.os ∧ AllBare s'.gens
/-- the law's call over an abstract heap that knows the script at most -/
theorem law_over {H : Hp} (KX : K.In s.heap) (hns : s.heap.Ns mainGlobals mg) (hb : s.heap.Ns builtinsNs mb) (hbb : ∀ x : Str, x ≠ "__name__" → mb x = bootBuiltins x) (hlim : s.heap.NoLimit) (hg : s.gens = #[])
    (ha : s.heap.get? a = some (listObj vs)) (hr : Room k callerA) (F : ∀ base : Heap, K.In base → base.Ns mainGlobals mg → FnG P w K mg base CX k fa fd [x] sp) (hbind : ∀ (s : Shared) (u : Value), BindsTo s fd ⟨[u], []⟩ [(x, u)])
    (hCX : ∀ e s', CX [] H s (fun _ _ _ => False) e s' → False) (hO : Only H) (hsp : sp [.ref a] H (fun v _ => v = .bl true) fun _ _ _ => False) (hok : HOk P w H s.heap) (one : ∀ b u, H b = some u → b = a ∧ K.lookup a = none) :
    codeAny (model P w) callerA (.call (.ref fa) ⟨[.ref a], []⟩) (Ended s) s := by
  have off : ∀ {b : Addr}, (b = a → K.lookup a = none → False) → H b = none := fun {b} n => by
    cases q : H b with
    | none => rfl
    | some u => exact (n (one b u q).1 (one b u q).2).elim
  have dicts : ∀ {b : Addr} {m : Str → Option Value}, s.heap.Ns b m → (hidT s.heap H).Ns b m := fun {b m} h => by
    obtain ⟨o, es, ep, e, d, r⟩ := h
    refine ⟨o, es, ep, hidT_get e (off fun q _ => ?_), d, r⟩
    rw [q, ha] at e
    cases e
    cases (show Data.seq vs.toArray _ = Data.dict es ep from d)
  have own : K.In (hidT s.heap H) := fun b o e => hidT_get (KX b o e) (off fun q z => by rw [q, z] at e; cases e)
  have start : Env0 P w K mg (hidT s.heap H) callerA [] s H := {
    frames := rfl
    mod := ⟨own, dicts hns, ⟨mb, dicts hb, hbb⟩, hlim.imp fun _ h => ⟨dicts h.1, h.2⟩⟩
    bs := fun _ _ e => of_hidT e
    bsz := Nat.le_of_eq (hidT_size _ _)
    funs := trivial
    frf := fun b m => by cases (show b ∈ ([] : List Addr) from m)
    hok := hok
    bare := .of_eq hg }
  have run := (F _ own (dicts hns)).at_ callerA rfl hr [] s H ⟨[.ref a], []⟩ [.ref a] [.ref a] (fun v _ => v = .bl true) (fun _ _ _ => False) start (hbind s (.ref a)) (.cons rfl .nil) hsp
  refine codeAny_mono run fun r s' h => ?_
  match r, h with
  | .error e, h => exact (hCX e s' h).elim
  | .ok .next, h => exact h.elim
  | .ok .brk, h => exact h.elim
  | .ok .cont, h => exact h.elim
  | .ok (.ret u), ⟨v, H', os, bare, un, hok', rv, q⟩ =>
    obtain rfl : v = V.bl true := q
    obtain rfl : u = Value.bool true := rv
    refine ⟨rfl, OldK.of_keep fun b o e => ?_, os, bare⟩
    cases q : H b with
    | none => exact un.keep b o e q (fun z => by cases (show b ∈ ([] : List Addr) from z)) (by simp)
    | some u =>
      rcases hO b with z | ⟨ob, xs, z⟩
      · rw [q] at z; cases z
      · have same := (hok b _ z).1
        rw [e] at same
        cases same
        exact (hok' b _ (un.frzs b _ _ z)).1
theorem law_callG (KX : K.In s.heap) (hns : s.heap.Ns mainGlobals mg) (hb : s.heap.Ns builtinsNs mb) (hbb : ∀ x : Str, x ≠ "__name__" → mb x = bootBuiltins x) (hlim : s.heap.NoLimit) (hg : s.gens = #[])
    (ha : s.heap.get? a = some (listObj vs)) (hi : IntsAre vs ns) (hl : ns.length ≤ sizeLine) (hr : Room k callerA)
    (F : ∀ base : Heap, K.In base → base.Ns mainGlobals mg → FnG P w K mg base CX k fa fd [x] sp) (hbind : ∀ (s : Shared) (u : Value), BindsTo s fd ⟨[u], []⟩ [(x, u)])
    (hsp : ∀ H : Hp, Only H → SqL K H a (ns.map V.int) → sp [.ref a] H (fun v _ => v = .bl true) fun _ _ _ => False) (hCX : ∀ H e s', CX [] H s (fun _ _ _ => False) e s' → False) :
    codeAny (model P w) callerA (.call (.ref fa) ⟨[.ref a], []⟩) (Ended s) s := by
  have rv := vals_ints hi
  have go := fun H hO hS hok one => law_over (H := H) KX hns hb hbb hlim hg ha hr F hbind (hCX H) hO (hsp H hO hS) hok one
  cases hk : K.lookup a with
  | some o =>
    have e := KX a o hk
    rw [ha] at e
    cases e
    refine go (fun _ => none) (fun _ => .inl rfl) (.inr ⟨_, vs.toArray, _, hk, rfl, rfl, rfl, ?_, rv⟩) (fun b u z => ?_) fun b u z => ?_
    · rw [List.size_toArray, hi.length]; exact hl
    · cases (show (none : Option HO) = some u from z)
    · cases (show (none : Option HO) = some u from z)
  | none =>
    have here : (fun b => if b = a then some (HO.frz (listObj vs) (.lst (ns.map V.int))) else none) a = some (HO.frz (listObj vs) (.lst (ns.map V.int))) := if_pos rfl
    refine go (fun b => if b = a then some (.frz (listObj vs) (.lst (ns.map V.int))) else none) (fun b => ?_) (.inl (.inr ⟨_, here⟩)) (fun b u z => ?_) fun b u z => ?_
    · by_cases q : b = a
      · exact .inr ⟨_, _, if_pos q⟩
      · exact .inl (if_neg q)
    · by_cases q : b = a
      · subst q
        rw [here] at z
        cases z
        exact ⟨ha, by rw [List.length_map]; exact hl, vs, _, rv, ha⟩
      · cases ((if_neg q).symm.trans z)
    · by_cases q : b = a
      · exact ⟨q, hk⟩
      · cases ((if_neg q).symm.trans z)
end
theorem walk_ofG {l : PySem.W.OpenLaw} {n k : Nat} {q : Program} {loose : List Str} {XP : (Str → Option Value) → Heap → Prop} {YP : World → Heap → Prop} {d : DefRec} {CX : CXT} {x : Str}
    (hn : l.most = some n) (hn2 : n ≤ sizeLine) (hdf : d.params.defaults = []) (hr : Room k callerA)
    (F : ∀ (w : World) (mg : Str → Option Value) (fa : Addr) (h : Heap), YP w h → h.Ns mainGlobals mg → mg d.name = some (.ref fa) →
      ∃ (K : PySem.W.Frag) (fd : FuncData) (sp : Sp), K.In h ∧ (∀ (s : Shared) (u : Value), BindsTo s fd ⟨[u], []⟩ [(x, u)]) ∧
        (∀ (H : Hp) (a : Addr) (ns : List Int), ns.length ≤ n → Only H → SqL K H a (ns.map V.int) → sp [.ref a] H (fun v _ => v = .bl true) fun _ _ _ => False) ∧
        ∀ base : Heap, K.In base → base.Ns mainGlobals mg → FnG l.prog w K mg base CX k fa fd [x] sp)
    (hCX : ∀ (H : Hp) (s : Shared) (e : Value) (s' : Shared), CX [] H s (fun _ _ _ => False) e s' → False) :
    PySem.W.WalkO q loose XP YP l.row.toRowW d [] (fun f vs => PySem.call f vs) :=
  Att.attach_call hn hdf fun w _ s₁ mg mb fa _ _ _ _ a vs ns G Y _ _ _ hmg hobj hints hlen hg => by
    obtain ⟨K, fd, sp, KX, hb, hsp, hF⟩ := F w mg fa _ Y G.T.g hmg
    exact law_callG KX G.T.g G.T.b G.T.builtins G.T.nolimit hg hobj hints (Nat.le_trans hlen hn2) hr hF hb (fun H hO hS => hsp H a ns hlen hO hS) fun H e s' => hCX H s₁ e s'
theorem FnG.cx {P : Program} {w : World} {K : PySem.W.Frag} {mg : Str → Option Value} {base : Heap} {CX CX' : CXT} {k : Nat} {f : Addr} {fd : FuncData} {ps : List Str} {sp : Sp}
    (h : ∀ o H s E u s', CX o H s E u s' → CX' o H s E u s') (F : FnG P w K mg base CX k f fd ps sp) : FnG P w K mg base CX' k f fd ps sp :=
  ⟨F.len, fun A hg hr outer s H args us vs Q E e0 hb hv hs => codeAny_mono (F.at_ A hg hr outer s H args us vs Q E e0 hb hv hs) fun r s' q => match r, q with
    | .error e, q => h _ _ _ _ _ _ q
    | .ok (.ret _), q => q
    | .ok .next, q => q
    | .ok .brk, q => q
    | .ok .cont, q => q⟩
end Mi
namespace Mi
open PySem PySem.Spec PyProof.Rows L2 Rt
def reprOk (p : PyData) : Bool := p.showable && (decide (p.depth ≤ 64) && (!p.hasDict && decide (p.shown.length ≤ sizeLine)))
theorem reprOk_of {p : PyData} (h : reprOk p = true) : p.showable = true ∧ p.depth ≤ 64 ∧ p.hasDict = false ∧ p.shown.length ≤ sizeLine := by
  unfold reprOk at h
  rw [Bool.and_eq_true, Bool.and_eq_true, Bool.and_eq_true] at h
  exact ⟨h.1, of_decide_eq_true h.2.1, by simpa using h.2.2.1, of_decide_eq_true h.2.2.2⟩
def opRepr : List (Tg × D) → Option Sl
  | [(_, d)] => (toPD d).bind fun p => if reprOk p = true then some (.fz (.str p.shown)) else none
  | _ => none
def rReprD (K : PySem.W.Frag) : List V → Hp → VK → Prop := fun vs H Q => ∃ x p, vs = [x] ∧ Dp K H x p ∧ reprOk p = true ∧ Q (.str p.shown) H
theorem cr_reprD {X : Cx} (hG : X.A.guards = some []) (hu : X.A.units + 65 < cLine) : CallR X (.builtin "repr") (rReprD X.K) := by
  intro pins s σ H vs us Q I r h
  obtain ⟨x, p, rfl, hd, hr, q⟩ := h
  obtain ⟨u, rfl, ru⟩ := vals1 r
  obtain ⟨h1, h2, h3, h4⟩ := reprOk_of hr
  obtain ⟨as, rd⟩ := Dp.reads I p x u hd ru
  have done : ∀ {t : Tok} {k : Nat}, EP X pins σ Q (.str p.shown t) { s with toks := k } := fun {t k} => ⟨.str p.shown, H, I.tok _, ⟨_, rfl⟩, q⟩
  have refs : ∀ a, u = Value.ref a → wpAny (model X.prog X.w) X.A (call (.builtin "repr") [u]) (EP X pins σ Q) X.xe s := fun a e => by
    subst e
    exact repr_of_reads' rd h1 (PyData.noDict_hsm h3) hG (by omega) (fun _ _ e => e) (fun h' t k keep => ⟨.str p.shown, H, I.kept keep, ⟨_, rfl⟩, q⟩) h4
  cases rd with
  | none => exact PySem.P.repr_of_none done
  | bool => exact PySem.P.repr_of_bool done
  | int => exact PySem.P.repr_of_int (by simpa [PyData.showable] using h1) done
  | str => exact PySem.P.repr_of_str done h4
  | list => exact refs _ rfl
  | tuple => exact refs _ rfl
  | dict => cases h3
theorem op_repr_ok {K : PySem.W.Frag} : OpN K (rReprD K) opRepr := by
  intro Z H vs xs res Q s hs h k
  unfold opRepr at h
  split at h
  · obtain ⟨p, e1, e2⟩ := Option.bind_eq_some_iff.mp h
    split at e2
    · rename_i c
      cases e2
      cases hs with
      | cons h1 hs =>
        cases hs
        obtain ⟨f, h1⟩ := h1
        exact ⟨_, p, rfl, dp_of (h1.rd s.toSub) e1, c, nl s k (.str _)⟩
    · cases e2
  · cases h
theorem e_repr {t : Tg} {d : D} : opRepr [(t, d)] = (toPD d).bind fun p => if reprOk p = true then some (.fz (.str p.shown)) else none := rfl
end Mi
namespace Mi
open PySem PySem.Spec PyProof.Rows L2 Rt
section
variable {X : Cx} {E0 : XK} {e : Expr} {dvs : List V} {dds : List D} {m : Fm} {fk : FA}
end
end Mi
namespace Mi
open PySem PySem.Spec PyProof.Rows L2 Rt
end Mi
namespace Mi
open PySem PySem.Spec PyProof.Rows L2 Rt PySem.Calls
section
variable {prog : Program} {w : World} {A : Around} {E : Value → Shared → Prop} {s : Shared} {K : PySem.W.Frag} {x C f : Addr} {ox : Obj} {od : Option Obj} {b : Value}
end
end Mi
namespace Mi
open PySem PySem.Spec PyProof.Rows L2 Rt
end Mi
namespace Mi
open PySem PySem.Spec PyProof.Rows L2 Rt
end Mi
namespace Mi
open PySem PySem.Spec PyProof.Rows L2 Rt
instance {i j : Int} : Decidable (RgOk i j) := inferInstanceAs (Decidable (_ ∧ _ ∧ _ ∧ _ ∧ _))
end Mi
namespace Mi
open PySem PySem.Spec PyProof.Rows L2 Rt
section
variable {X : Cx}
end
end Mi
namespace Mi
open PySem PySem.Spec PyProof.Rows L2 Rt
end Mi
namespace Mi
open PySem PySem.Spec PyProof.Rows L2 Rt
end Mi
namespace Mi
open PySem PySem.Spec PyProof.Rows L2 Rt
section
variable {prog : Program} {w : World} {A : Around} {E : Value → Shared → Prop} {s : Shared} {KY : Type} [DecidableEq KY] {knd : KeyKind prog w KY}
end
section
variable {X : Cx} {Z H : Hp} {a b : Addr} {ks ls : List (Key × V)}
end
theorem paired_at {α β : Type} {F : α → β → Prop} : ∀ {l₁ : List α} {l₂ : List β} {i : Nat} {q : β}, Paired F l₁ l₂ → l₂[i]? = some q → ∃ p, l₁[i]? = some p ∧ F p q
  | _, _, _, _, .nil, e => by simp at e
  | _, _, 0, _, .cons r _, e => by simp at e; subst e; exact ⟨_, rfl, r⟩
  | _, _, i + 1, _, .cons _ t, e => by simpa using paired_at (i := i) t (by simpa using e)
section
variable {K : PySem.W.Frag} {c : Str} {m : Fm} {E0 : XK}
end
section
variable {c c1 : Str} {m : Fm} {t u : Tg} {y : D}
end
end Mi
namespace Mi
open PySem PySem.Spec PyProof.Rows L2 Rt
section
variable {op : Tg → D → Tg → D → Option Sl} {i : Nat} {fe : FE} {ss : List Sl} {x y : Sl} {d : D}
end
end Mi
namespace Mi
open PySem PySem.Spec PyProof.Rows L2 Rt
/-- an address of one's own, out of the reach of all that is known -/
def SP (X : Cx) (pins : List (Addr × Obj)) (P : Addr) : Prop := P ≠ X.env.locals ∧ P ∉ X.fs ∧ (P ∈ X.ex ∨ X.s_0.heap.objs.size ≤ P) ∧ (∀ x c, X.env.cells.lookup x = some c → c ≠ P) ∧ ∀ p ∈ X.pn ++ pins, p.1 ≠ P
section
variable {X : Cx} {pins : List (Addr × Obj)} {σ : L2.St} {H : Hp} {s : Shared}
theorem p_un {p : Addr × Obj} (I : L2.Inv X (p :: pins) σ H s) : H p.1 = none := (I.pin p (List.mem_append_right _ List.mem_cons_self)).2.1
theorem p_at {p : Addr × Obj} (I : L2.Inv X (p :: pins) σ H s) : s.heap.get? p.1 = some p.2 := (I.pin p (List.mem_append_right _ List.mem_cons_self)).1
theorem p_off {p : Addr × Obj} (I : L2.Inv X (p :: pins) σ H s) : L2.Inv X pins σ H s := I.pins_of fun r hr => I.pin r (List.mem_append_right _ (List.mem_cons_of_mem _ hr))
theorem p_new {o : Obj} {h' : Heap} {a : Addr} {t' : Nat} (I : L2.Inv X pins σ H s) (k : ∀ b u, s.heap.get? b = some u → h'.get? b = some u) (ha : s.heap.objs.size ≤ a) (ho : h'.get? a = some o) (hc : ∀ v, o.data ≠ .cell v) :
    L2.Inv X ((a, o) :: pins) σ H { s with heap := h', toks := t' } := by
  have I1 := I.kept (t' := t') k
  refine I1.pins_of fun p hp => ?_
  rcases List.mem_cons.mp hp with e | e
  · subst e
    exact ⟨ho, I.hok.fresh ha, Nat.ne_of_gt (Nat.lt_of_lt_of_le I.lt ha), I.nofs ha, hc⟩
  · exact I1.pin p (List.mem_append_right _ e)
theorem SP.of {b : Addr} (I : L2.Inv X pins σ H s) (hb : s.heap.objs.size ≤ b) : SP X pins b := (I.fpOk (H' := fun _ => none) hb rfl).2
theorem pin_turn {P : Addr} {o o' : Obj} {h' : Heap} {t' : Nat} (I : L2.Inv X ((P, o) :: pins) σ H s) (sp : SP X pins P) (k : ∀ b ob, b ≠ P → s.heap.get? b = some ob → h'.get? b = some ob) (ho : h'.get? P = some o') (hc : ∀ v, o'.data ≠ .cell v) : L2.Inv X ((P, o') :: pins) σ H { s with heap := h', toks := t' } := by
  have hn := p_un I
  have I0 := (p_off I).turnedL (t' := t') (h' := h') (ch := [P]) (fun b ob hb e => k b ob (fun z => hb (by simp [z])) e) fun b hb => by
    obtain rfl : b = P := by simpa using hb
    exact ⟨hn, sp⟩
  refine I0.pins_of fun p hp => ?_
  rcases List.mem_cons.mp hp with e | e
  · subst e
    exact ⟨ho, hn, sp.1, sp.2.1, hc⟩
  · exact I0.pin p (List.mem_append_right _ e)
end
theorem sub_guard {X : Cx} {k : Nat} {A : Around} {c : Code} (r : L2.Sub X (k + 1) A) (hu : (A.under c).units = A.units + 1) (hd : (A.under c).depth ≤ A.depth + 1) (hf : (A.under c).frames = A.frames) : L2.Sub X k (A.under c) :=
  ⟨⟨r.room.hd, by have := r.room.dp; omega, by have := r.room.un; omega⟩, hf.trans r.fr⟩
theorem dp_list (A : Around) (args : Args) : (A.under (.builtin "list.__repr__.loop" args)).depth ≤ A.depth + 1 := by simp [Around.under, Code.weight, Code.isCreation, Code.isGuard, Code.isCaller, Code.frames, Code.isFrame, guardIds]
theorem dp_tup (A : Around) (args : Args) : (A.under (.builtin "tuple.__repr__" args)).depth ≤ A.depth + 1 := by simp [Around.under, Code.weight, Code.isCreation, Code.isGuard, Code.isCaller, Code.frames, Code.isFrame, guardIds]
theorem dp_tup2 (A : Around) (args : Args) : (A.under (.builtin "tuple.__repr__.under" args)).depth ≤ A.depth + 1 := by simp [Around.under, Code.weight, Code.isCreation, Code.isGuard, Code.isCaller, Code.frames, Code.isFrame, guardIds]
theorem dp_dict (A : Around) (args : Args) : (A.under (.builtin "dict.__repr__" args)).depth ≤ A.depth + 1 := by simp [Around.under, Code.weight, Code.isCreation, Code.isGuard, Code.isCaller, Code.frames, Code.isFrame, guardIds]
theorem dp_dict2 (A : Around) (args : Args) : (A.under (.builtin "dict.__repr__.under" args)).depth ≤ A.depth + 1 := by simp [Around.under, Code.weight, Code.isCreation, Code.isGuard, Code.isCaller, Code.frames, Code.isFrame, guardIds]
theorem fr_list (A : Around) (args : Args) : (A.under (.builtin "list.__repr__.loop" args)).frames = A.frames := by rfl
/-- the repr of x is t, by what may run code: from any state that has grown from Z, H -/
def RpJ (X : Cx) (n : Nat) (Z H : Hp) (as : List Addr) (d : Nat) (x : V) (t : Str) : Prop :=
  ∀ (base : Nat), base + t.length ≤ sizeLine → ∀ (A : Around) (g : List Code) (pins : List (Addr × Obj)) (s : Shared) (σ : L2.St) (Z1 H1 : Hp) (u : Value) (Q : Str → Shared → Prop), L2.Sub X n A → A.guards = some g → (∀ b ∈ as, Clear g b) → A.units + d < cLine →
    L2.Inv X pins σ H1 s → Step Z H [] Z1 H1 [] → SubM X.K Z1 H1 → RelV x u → (∀ s' Z2 H2, L2.Inv X pins σ H2 s' → Step Z1 H1 [] Z2 H2 [] → SubM X.K Z2 H2 → Q t s') → wpAny (model X.prog X.w) A (pyReprUnder base u) Q X.xe s
inductive RpAll (X : Cx) (n : Nat) (Z H : Hp) (as : List Addr) (d : Nat) : List V → List Str → Prop
  | nil : RpAll X n Z H as d [] []
  | cons {x : V} {t : Str} {l : List V} {ts : List Str} : RpJ X n Z H as d x t → RpAll X n Z H as d l ts → RpAll X n Z H as d (x :: l) (t :: ts)
section
variable {X : Cx} {n : Nat} {Z H : Hp} {as as' : List Addr} {d d' : Nat}
theorem RpJ.more {x : V} {t : Str} (h : RpJ X n Z H as d x t) (hs : ∀ b ∈ as, b ∈ as') (hd : d ≤ d') : RpJ X n Z H as' d' x t :=
  fun base hb A g pins s σ Z1 H1 u Q sb hg hcl hu => h base hb A g pins s σ Z1 H1 u Q sb hg (fun b m => hcl b (hs b m)) (by omega)
theorem RpJ.deep {m : Nat} {x : V} {t : Str} (h : RpJ X n Z H as d x t) (hn : n ≤ m) : RpJ X m Z H as d x t :=
  fun base hb A g pins s σ Z1 H1 u Q sb => h base hb A g pins s σ Z1 H1 u Q (sb.mono hn)
theorem RpAll.more (hs : ∀ b ∈ as, b ∈ as') (hd : d ≤ d') : ∀ {l : List V} {ts : List Str}, RpAll X n Z H as d l ts → RpAll X n Z H as' d' l ts
  | _, _, .nil => .nil
  | _, _, .cons h t => .cons (h.more hs hd) (t.more hs hd)
theorem RpAll.len : ∀ {l : List V} {ts : List Str}, RpAll X n Z H as d l ts → ts.length = l.length
  | _, _, .nil => rfl
  | _, _, .cons _ t => by simp [t.len]
theorem RpAll.item : ∀ {l : List V} {ts : List Str}, RpAll X n Z H as d l ts → ∀ (i : Nat) (y : V), l[i]? = some y → ∃ t, ts[i]? = some t ∧ RpJ X n Z H as d y t
  | _, _, .nil, _, _, e => by simp at e
  | _, _, .cons hx _, 0, _, e => by
    simp at e
    subst e
    exact ⟨_, rfl, hx⟩
  | _, _, .cons _ hl, i + 1, y, e => by
    obtain ⟨t, ht, hk⟩ := hl.item i y (by simpa using e)
    exact ⟨t, by simpa using ht, hk⟩
/-- what is neither locked nor owned stays -/
theorem step_keep {Z1 H1 : Hp} (st : Step Z H [] Z1 H1 []) {a : Addr} {o : HO} (h : H a = some o) (hl : ¬ lockable o) (nt : ¬ isTbl o := by intro z; exact z) : H1 a = some o := (st.keep a o h (fun m => nomatch m)).elim id fun z => (z.2.no hl nt).elim
abbrev accObj (acc : Array Value) (c : Nat) : Obj := { cls := .type "list", dict := none, data := .seq acc c, slots := #[] }
variable {A : Around} {R : Result → Shared → Prop}
theorem list_loopJ {a P : Addr} {vs : List V} {ts : List Str} {base : Nat} {g : List Code} (hA : L2.Sub X (n + 1) A) (hg : A.guards = some g) (hcl : ∀ b ∈ as, Clear g b) (hu : A.units + (d + 1) < cLine) (hna : a ∉ as) (hE : ∀ e s', X.xe e s' → R (.error e) s')
    (ha : H a = some (.lst vs)) (hT : RpAll X n Z H as d vs ts) (hsz : base + (listText ts).length ≤ sizeLine) {pins : List (Addr × Obj)} {σ : L2.St} (sp : SP X pins P) :
    ∀ (k i : Nat) (s : Shared) (acc : Array Value) (c : Nat) (done : List (Str × Tok)) (Z1 H1 : Hp), vs.length - i = k → i ≤ vs.length → L2.Inv X ((P, accObj acc c) :: pins) σ H1 s → Step Z H [] Z1 H1 [] → SubM X.K Z1 H1 → acc.toList = strValues done → done.map (·.1) = ts.take i →
    (∀ s' Z2 H2 u, L2.Inv X pins σ H2 s' → Step Z H [] Z2 H2 [] → SubM X.K Z2 H2 → R (.ok (.ret (.str (listText ts) u))) s') →
    codeAny (model X.prog X.w) A (.builtin "list.__repr__.loop" ⟨[.ref a, rawInt i, .ref P, rawInt ((base + piled (ts.take i) : Nat) : Int)], []⟩) R s := by
  have hlen : ts.length = vs.length := hT.len
  have hX : (listText ts).length = (textFrom 0 "[" ts).length + 1 := by
    show (textFrom 0 "[" ts ++ "]").length = _
    rw [strLen_append]; rfl
  have hL := textFrom_len ts 0 "["
  have hsz1 : vs.length ≤ sizeLine := by
    have h1 := hL.1
    rw [if_neg (Nat.lt_irrefl 0)] at h1
    omega
  have hsz2 : ∀ t ∈ ts, t.length ≤ sizeLine := fun t ht => by
    have h2 := hL.2.1 t ht
    omega
  have hsz3 : (listText ts).length ≤ sizeLine := by omega
  have hp3 := piled_le_listText ts
  intro k
  induction k with
  | zero =>
    intro i s acc c done Z1 H1 hk hi I st su hacc hdone hR
    have hin : i = vs.length := by omega
    obtain ⟨z, its, na, r, e⟩ := I.hok a _ (step_keep st ha id)
    have hP := p_at I
    refine codeAny_builtin F.entry_list_repr_loop ?_
    show wpAny _ _ (Builtin.«list.__repr__.loop» ⟨[.ref a, .int i 0, .ref P, .int ((base + piled (ts.take i) : Nat) : Int) 0], []⟩) _ _ s
    rw [repr_loop_tree]
    refine wpAny_bind (wpAny_listItems e rfl ?_)
    have hnone : its.toArray[(i : Int).toNat]? = none := by
      have := r.length
      simp [hin]; omega
    simp only [hnone]
    unfold reprEnd
    refine wpAny_bind (wpAny_listItems hP rfl ?_)
    rw [hacc, repr_fold]
    refine wpAny_bind (wpAny_pure ?_)
    have hall : done.map (·.1) = ts := by rw [hdone, hin, ← hlen, List.take_length]
    rw [hall]
    refine wpAny_bind (wpAny_mkStr (wpAny_pure ?_) hsz3)
    exact hR _ Z1 H1 _ ((p_off I).tok _) st su
  | succ k ih =>
    intro i s acc c done Z1 H1 hk hi I st su hacc hdone hR
    have hlt : i < vs.length := by omega
    obtain ⟨z, its, na, r, e⟩ := I.hok a _ (step_keep st ha id)
    obtain ⟨u, hu', ru⟩ := r.get (List.getElem?_eq_getElem hlt)
    obtain ⟨t, ht, hrep⟩ := hT.item i vs[i] (List.getElem?_eq_getElem hlt)
    have hp1 := piled_take_succ ht
    have hp2 := piled_take_le ts (i + 1)
    refine codeAny_builtin F.entry_list_repr_loop ?_
    show wpAny _ _ (Builtin.«list.__repr__.loop» ⟨[.ref a, .int i 0, .ref P, .int ((base + piled (ts.take i) : Nat) : Int) 0], []⟩) _ _ s
    rw [repr_loop_tree]
    refine wpAny_bind (wpAny_listItems e rfl ?_)
    have hsome : its.toArray[(i : Int).toNat]? = some u := by simpa using hu'
    simp only [hsome]
    rw [Int.toNat_natCast]
    refine wpAny_bind (wpAny_holding (wpAny_mono (hrep (base + piled (ts.take i) + 1) (by omega) _ _ _ s σ Z1 H1 u (fun t' s' => t' = t ∧ ∃ Z2 H2, L2.Inv X ((P, accObj acc c) :: pins) σ H2 s' ∧ Step Z1 H1 [] Z2 H2 [] ∧ SubM X.K Z2 H2) (sub_guard hA (units_under_list_loop _ _) (dp_list _ _) (fr_list _ _)) (guards_under_guard (isGuard_list_loop _) hg) (fun b hb => (hcl b hb).cons (a := a) fun e => hna (e ▸ hb)) (by rw [units_under_list_loop]; omega) I st su ru (fun s' Z2 H2 I2 st2 su2 => ⟨rfl, Z2, H2, I2, st2, su2⟩)) (fun t' s2 q => ?_) fun e' s' q => hE e' s' q))
    obtain ⟨rfl, Z2, H2, I2, st2, su2⟩ := q
    have hP := p_at I2
    have hn2 := p_un I2
    refine wpAny_bind (wpAny_mkStr ?_ (hsz2 t' (List.mem_of_getElem? ht)))
    refine wpAny_bind ?_
    show wpAny _ _ (updateSeq P _) _ _ _
    have hasz : acc.size ≤ sizeLine := by
      have e1 : acc.toList.length = acc.size := by simp
      have e2 : (strValues done).length = done.length := by simp [strValues]
      have e3 : done.length = (ts.take i).length := by rw [← hdone, List.length_map]
      have e4 : (ts.take i).length ≤ i := by rw [List.length_take]; omega
      rw [hacc] at e1; omega
    refine wpAny_updateSeq hP rfl (wpAny_pure ⟨F.quiet_list_repr_loop _, ?_⟩) hasz
    have e1 : ((i : Int) + 1) = ((i + 1 : Nat) : Int) := by omega
    have e2 : base + piled (ts.take i) + (t'.length + 2) = base + piled (ts.take (i + 1)) := by omega
    rw [e1, e2]
    refine ih (i + 1) _ (acc.push (.str t' s2.toks)) _ (done ++ [(t', s2.toks)]) Z2 H2 (by omega) hlt (pin_turn (I2.tok (s2.toks + 1)) sp (fun b ob hb e => (Heap.get?_update_other _ _ (fun h : P = b => hb h.symm)).trans e) (Heap.get?_update_self _ hP rfl) (fun v z => nomatch z)) (st.tr st2) su2 (by simp [hacc, strValues]) (by simp [List.take_add_one, ht, hdone]) hR
theorem list_reprAtJ {a : Addr} {x : V} {vs : List V} {ts : List Str} {base : Nat} {g : List Code} (hA : L2.Sub X (n + 1) A) (hg : A.guards = some g) (hcl : ∀ b ∈ a :: as, Clear g b) (hu : A.units + (d + 1) < cLine) (hna : a ∉ as) (hE : ∀ e s', X.xe e s' → R (.error e) s')
    (ha : H a = some (.lst (x :: vs))) (hT : RpAll X n Z H as d (x :: vs) ts) (hsz : base + (listText ts).length ≤ sizeLine) {pins : List (Addr × Obj)} {σ : L2.St} {s : Shared} {Z1 H1 : Hp} (I : L2.Inv X pins σ H1 s) (st : Step Z H [] Z1 H1 []) (su : SubM X.K Z1 H1)
    (hR : ∀ s' Z2 H2 u, L2.Inv X pins σ H2 s' → Step Z H [] Z2 H2 [] → SubM X.K Z2 H2 → R (.ok (.ret (.str (listText ts) u))) s') :
    wpAny (model X.prog X.w) A.in1 (Builtin.listReprAt base ⟨[.ref a], []⟩) (fun fin s' => match fin with | .done f => R (.ok f) s' | .again c' => c'.quiet = true ∧ codeAny (model X.prog X.w) A c' R s') (fun e s' => R (.error e) s') s := by
  have hca : Clear g a := hcl a (.head _)
  obtain ⟨z, its, na, r, e⟩ := I.hok a _ (step_keep st ha id)
  cases r with
  | @cons _ y _ ys r1 r2 =>
  refine wpAny_list_repr_head (A := A.in1) (x := y) (l := ys) hg (fun v rest kw hm => listSameRef_of_ne (hca _ _ _ _ hm)) e rfl ?_
  refine wpAny_bind (m := newList []) (wpAny_newObj_type ?_)
  refine wpAny_pure ⟨F.quiet_list_repr_loop _, ?_⟩
  exact list_loopJ (P := s.heap.objs.size) hA hg (fun b hb => hcl b (.tail _ hb)) hu hna hE ha hT hsz (SP.of I (Nat.le_refl _)) _ 0 _ #[] _ [] Z1 H1 rfl (Nat.zero_le _) (p_new (t' := s.toks) I (fun b ob e => Heap.get?_push_of_some _ e) (Nat.le_refl _) (Heap.get?_push_size _ rfl) (fun v z => nomatch z)) st su rfl (by simp) hR
theorem tup_foldJ {g : List Code} (hA : L2.Sub X n A) (hg : A.guards = some g) (hcl : ∀ b ∈ as, Clear g b) (hu : A.units + d < cLine) {pins : List (Addr × Obj)} {σ : L2.St} : ∀ (l : List V) (us : List Value) (ts : List Str) (acc : Array Str) (m : Nat) (s : Shared) (Z1 H1 : Hp) (Q : (Array Str × Nat) → Shared → Prop), RpAll X n Z H as d l ts → Vals l us → m + piled ts ≤ sizeLine →
    L2.Inv X pins σ H1 s → Step Z H [] Z1 H1 [] → SubM X.K Z1 H1 → (∀ s' Z2 H2, L2.Inv X pins σ H2 s' → Step Z H [] Z2 H2 [] → SubM X.K Z2 H2 → Q ⟨acc ++ ts.toArray, m + piled ts⟩ s') →
    wpAny (model X.prog X.w) A (forIn us (⟨acc, m⟩ : (Array Str × Nat)) tupBody) Q X.xe s := by
  intro l
  induction l with
  | nil =>
    intro us ts acc m s Z1 H1 Q hT r _ I st su h
    cases hT
    cases r
    have h0 := h s Z1 H1 I st su
    simp only [List.forIn_nil]
    exact wpAny_pure (by simpa [piled] using h0)
  | cons x l ih =>
    intro us ts acc m s Z1 H1 Q hT r hn I st su h
    cases hT with
    | cons hx hl =>
      rename_i t ts'
      cases r with
      | @cons _ y _ ys r1 r2 =>
      rw [piled_cons] at hn
      rw [List.forIn_cons]
      refine wpAny_bind (wpAny_bind (hx (m + 1) (by omega) _ _ _ s σ Z1 H1 y _ hA hg hcl hu I st su r1 fun s' Z2 H2 I2 st2 su2 => wpAny_pure ?_))
      refine ih ys ts' (acc.push t) (m + (t.length + 2)) _ Z2 H2 Q hl r2 (by omega) I2 (st.tr st2) su2 fun s3 Z3 H3 I3 st3 su3 => ?_
      have h1 := h s3 Z3 H3 I3 st3 su3
      have e : m + piled (t :: ts') = m + (t.length + 2) + piled ts' := by rw [piled_cons]; omega
      rw [e] at h1
      simpa using h1
end
end Mi
namespace Mi
open PySem PySem.Spec PyProof.Rows L2 Rt
section
variable {X : Cx} {n : Nat} {Z H : Hp} {as : List Addr} {d : Nat} {A : Around} {R : Result → Shared → Prop}
theorem sqT_keep {Z1 H1 : Hp} (st : Step Z H [] Z1 H1 []) {K : PySem.W.Frag} {a : Addr} {vs : List V} (h : SqT K H a vs) : SqT K H1 a vs := by
  rcases h with (h | ⟨o, h⟩) | h
  · exact .inl (.inl (step_keep st h id))
  · exact .inl (.inr ⟨o, step_keep st h id⟩)
  · exact .inr h
abbrev FinQ (X : Cx) (A : Around) (R : Result → Shared → Prop) : Fin → Shared → Prop := fun fin s' => match fin with
  | .done f => R (.ok f) s'
  | .again c' => c'.quiet = true ∧ codeAny (model X.prog X.w) A c' R s'
theorem tup_reprAtJ {a : Addr} {vs : List V} {ts : List Str} {base : Nat} {g : List Code} {id : String} {rest : List Value} (hcg : (Code.builtin id ⟨.ref a :: rest, []⟩).isGuard = true) (hcu : (A.under (.builtin id ⟨.ref a :: rest, []⟩)).units = A.units + 1) (hcd : (A.under (.builtin id ⟨.ref a :: rest, []⟩)).depth ≤ A.depth + 1) (hcf : (A.under (.builtin id ⟨.ref a :: rest, []⟩)).frames = A.frames)
    (hA : L2.Sub X (n + 1) A) (hg : A.guards = some g) (hcl : ∀ b ∈ a :: as, Clear g b) (hu : A.units + (d + 1) < cLine) (hna : a ∉ as) (hE : ∀ e s', X.xe e s' → R (.error e) s')
    (ha : SqT X.K H a vs) (hT : RpAll X n Z H as d vs ts) (hsz : base + (tupleText ts).length ≤ sizeLine) {pins : List (Addr × Obj)} {σ : L2.St} {s : Shared} {Z1 H1 : Hp} (I : L2.Inv X pins σ H1 s) (st : Step Z H [] Z1 H1 []) (su : SubM X.K Z1 H1)
    (hR : ∀ s' Z2 H2 u, L2.Inv X pins σ H2 s' → Step Z H [] Z2 H2 [] → SubM X.K Z2 H2 → R (.ok (.ret (.str (tupleText ts) u))) s') :
    wpOwn (model X.prog X.w) A (.builtin id ⟨.ref a :: rest, []⟩) (Builtin.tupleReprAt base ⟨[.ref a], []⟩) (FinQ X A R) (fun e s' => R (.error e) s') s := by
  have hca : Clear g a := hcl a (.head _)
  obtain ⟨its, r, e, z⟩ := I.tuple (sqT_keep st ha)
  obtain ⟨o, ho, hc, m, hd⟩ := e
  have hlen : ts.length = its.toArray.size := by
    have := hT.len
    have := r.length
    simp; omega
  have hp := piled_le_tupleText ts
  have hsz0 : (tupleText ts).length ≤ sizeLine := by omega
  rw [tuple_repr_tree, tupleReprUnderWay_eq]
  refine wpOwn_bind (wpOwn_stackTailAny hg (tupGuardF_off _) (tupGuardF_pos _) ?_)
  have hn : (g.any fun c => tupGuardF (.ref a) (c, default)) = false := by
    rw [List.any_eq_false]
    intro c hcm
    rw [tupGuardF_of_clear hca c hcm]
    exact Bool.false_ne_true
  rw [hn]
  refine wpOwn_of_wpAny ?_
  show wpAny _ _ (tupleReprRest base (.ref a)) _ _ s
  unfold tupleReprRest Builtin.Tuple.tupleItemsOf
  refine wpAny_bind (wpAny_bind (wpAny_seqItems ho hd (wpAny_pure ?_)))
  rw [← Array.forIn_toList]
  refine wpAny_bind (wpAny_mono (tup_foldJ (pins := pins) (σ := σ) (sub_guard hA hcu hcd hcf) (guards_under_guard hcg hg) (fun b hb => (hcl b (.tail _ hb)).cons (a := a) fun e => hna (e ▸ hb)) (by rw [hcu]; omega) vs its ts _ _ s Z1 H1 (fun p s' => p = (⟨#[] ++ ts.toArray, base + piled ts⟩ : Array Str × Nat) ∧ ∃ Z2 H2, L2.Inv X pins σ H2 s' ∧ Step Z H [] Z2 H2 [] ∧ SubM X.K Z2 H2) hT r (by omega) I st su fun s' Z2 H2 I2 st2 su2 => ⟨rfl, Z2, H2, I2, st2, su2⟩) (fun p s2 q => ?_) fun e s' q => hE e s' q)
  obtain ⟨rfl, Z2, H2, I2, st2, su2⟩ := q
  refine wpAny_bind (wpAny_mkStr (wpAny_pure ?_) (by simpa [tupleText, hlen] using hsz0))
  have h1 := hR { s2 with toks := s2.toks + 1 } Z2 H2 s2.toks (I2.tok _) st2 su2
  simpa [tupleText, hlen] using h1
theorem key_rel {P : Program} {w : World} {k : Key} {u : Value} (h : (mixKind P w).is k u = true) : RelV (kV k) u := by
  rcases keyIs_shape h with ⟨i, t, rfl, rfl⟩ | ⟨x, t, rfl, rfl⟩
  · exact ⟨t, rfl⟩
  · exact ⟨t, rfl⟩
/-- the texts of a dict's pairs -/
def RpKv (X : Cx) (n : Nat) (Z H : Hp) (as : List Addr) (d : Nat) (ks : List (Key × V)) (ps : List Str) : Prop :=
  ps.length = ks.length ∧ ∀ (i : Nat) k x, ks[i]? = some (k, x) → ∃ kt vt : Str, ps[i]? = some (kt ++ ": " ++ vt) ∧ RpJ X n Z H as d (kV k) kt ∧ RpJ X n Z H as d x vt
theorem dict_reprAtJ {a : Addr} {ks : List (Key × V)} {ps : List Str} {base : Nat} {g : List Code} {id : String} {rest : List Value} (hcg : (Code.builtin id ⟨.ref a :: rest, []⟩).isGuard = true) (hcu : (A.under (.builtin id ⟨.ref a :: rest, []⟩)).units = A.units + 1) (hcd : (A.under (.builtin id ⟨.ref a :: rest, []⟩)).depth ≤ A.depth + 1) (hcf : (A.under (.builtin id ⟨.ref a :: rest, []⟩)).frames = A.frames)
    (hA : L2.Sub X (n + 1) A) (hg : A.guards = some g) (hcl : ∀ b ∈ a :: as, Clear g b) (hu : A.units + (d + 1) < cLine) (hna : a ∉ as) (hE : ∀ e s', X.xe e s' → R (.error e) s')
    (hT : RpKv X n Z H as d ks ps) (hsz : base + (dictText ps).length ≤ sizeLine) {pins : List (Addr × Obj)} {σ : L2.St} {s : Shared} {Z1 H1 : Hp} {o : Obj} (I : L2.Inv X pins σ H1 s) (ha : H1 a = some (.frz o (.dK ks))) (st : Step Z H [] Z1 H1 []) (su : SubM X.K Z1 H1)
    (hR : ∀ s' Z2 H2 u, L2.Inv X pins σ H2 s' → Step Z H [] Z2 H2 [] → SubM X.K Z2 H2 → R (.ok (.ret (.str (dictText ps) u))) s') :
    wpOwn (model X.prog X.w) A (.builtin id ⟨.ref a :: rest, []⟩) (Builtin.dictReprAt base ⟨[.ref a], []⟩) (FinQ X A R) (fun e s' => R (.error e) s') s := by
  obtain ⟨_, hsys, va, ra, da⟩ := dk_rd I.hok (.inr ⟨_, ha⟩)
  obtain ⟨go, _⟩ := I.hok _ _ ha
  have hTy := da.typeIs
  obtain ⟨o', es, ep, ho', hcls, hd, hka, hpa, _⟩ := da
  rw [go] at ho'; cases ho'
  have hca : Clear g a := hcl a (.head _)
  have lv : va.length = es.size := by rw [← hpa.length]; exact Array.length_toList
  have lk : ks.length = va.length := ra.length
  have hlen : ps.length = es.size := by rw [hT.1, lk, lv]
  have hp3 := piled_le_dictText ps
  have hsz0 : (dictText ps).length ≤ sizeLine := by omega
  unfold Builtin.dictReprAt
  refine wpOwn_bind (wpOwn_of_wpAny ?_)
  unfold Builtin.Dict.dictSlotNone
  refine wpAny_bind (wpAny_notOrdered_dict hTy ?_)
  show wpAny _ _ (pure (Value.ref a)) _ _ s
  refine wpAny_pure ?_
  rw [dictReprRunning_eq]
  refine wpOwn_bind (wpOwn_stackTailAny hg (dictGuardF_off _) (dictGuardF_pos _) ?_)
  have hn : (g.any fun c => dictGuardF (.ref a) (c, default)) = false := by
    rw [List.any_eq_false]
    intro c hcm
    rw [dictGuardF_of_clear hca c hcm]
    exact Bool.false_ne_true
  rw [hn]
  refine wpOwn_of_wpAny ?_
  have hg' := guards_under_guard hcg hg
  have hcl' : ∀ b ∈ as, Clear (.builtin id ⟨.ref a :: rest, []⟩ :: g) b := fun b hb => (hcl b (.tail _ hb)).cons (a := a) fun e => hna (e ▸ hb)
  have hu' : (A.under (.builtin id ⟨.ref a :: rest, []⟩)).units + d < cLine := by rw [hcu]; omega
  have sbu := sub_guard hA hcu hcd hcf
  show wpAny _ _ (Builtin.Dict.addrOf (.ref a) >>= _) _ _ s
  refine wpAny_bind (wpAny_pure ?_)
  show wpAny _ _ (Builtin.Dict.showsAll a >>= _) _ _ s
  unfold Builtin.Dict.showsAll
  rw [if_neg (by rw [hsys]; exact Bool.false_ne_true)]
  refine wpAny_bind (wpAny_pure ?_)
  refine wpAny_bind (wpAny_dictEpoch go hd ?_)
  refine wpAny_bind (wpAny_dictEntries go hd ?_)
  refine wpAny_bind ?_
  rw [Std.Legacy.Range.forIn_eq_forIn_range']
  simp only [Std.Legacy.Range.size, Nat.sub_zero, Nat.add_sub_cancel, Nat.div_one]
  refine wpAny_forIn_list _
    (fun rest' r s' => ∃ i Z2 H2, rest' = List.range' i (es.size - i) ∧ i ≤ es.size ∧ r = (⟨(ps.take i).toArray, base + piled (ps.take i)⟩ : (Array Str × Nat)) ∧ L2.Inv X pins σ H2 s' ∧ Step Z1 H1 [] Z2 H2 [] ∧ SubM X.K Z2 H2)
    _ ?_ ?_ _ _ ⟨0, Z1, H1, by simp, Nat.zero_le _, by simp [piled], I, Step.refl fun _ m => m, su⟩
  · rintro x rest' _ s' ⟨i, Z2, H2, hr, hi, rfl, I2, st2, su2⟩
    have hlt : i < es.size := by
      rcases Nat.lt_or_ge i es.size with h | h
      · exact h
      · rw [Nat.sub_eq_zero_of_le h] at hr; simp at hr
    obtain ⟨rfl, hrest⟩ : x = i ∧ rest' = List.range' (i + 1) (es.size - (i + 1)) := by
      have e : es.size - i = (es.size - (i + 1)) + 1 := by omega
      rw [e, List.range'_succ] at hr
      injection hr with h1 h2
      exact ⟨h1, h2⟩
    have at_ : ∀ {Z3 H3 : Hp} {s3 : Shared}, L2.Inv X pins σ H3 s3 → Step Z1 H1 [] Z3 H3 [] → s3.heap.get? a = some o := fun I3 st3 => (I3.hok _ _ (step_keep st3 ha fun z => z)).1
    have hlv : x < va.length := by omega
    obtain ⟨k, v, hkv⟩ : ∃ k v, va[x] = (k, v) := ⟨_, _, rfl⟩
    have hk? : va[x]? = some (k, v) := by rw [List.getElem?_eq_getElem hlv, hkv]
    obtain ⟨hkey, hval⟩ := hpa.get? (i := x) (e := es[x]) (k := k) (v := v) (by rw [Array.getElem?_toList]; exact Array.getElem?_eq_getElem hlt) hk?
    obtain ⟨⟨k0, y⟩, e0, e1', ry⟩ := paired_at ra hk?
    cases (show k0 = k from e1')
    obtain ⟨kt, vt, hp, rk, rv⟩ := hT.2 x k y e0
    have hpl : (kt ++ ": " ++ vt).length = kt.length + 2 + vt.length := by
      rw [strLen_append, strLen_append]; rfl
    have hp1 := piled_take_succ hp
    have hp2 := piled_take_le ps (x + 1)
    rw [hpl] at hp1
    refine wpAny_bind (wpAny_dictEntries (at_ I2 st2) hd ?_)
    rw [Array.getElem?_eq_getElem hlt]
    refine wpAny_bind (wpAny_holding (wpAny_bind ?_))
    refine wpAny_mono (rk (base + piled (ps.take x) + 1) (by omega) _ _ pins s' σ Z2 H2 _ (fun t' s'' => t' = kt ∧ ∃ Z3 H3, L2.Inv X pins σ H3 s'' ∧ Step Z2 H2 [] Z3 H3 [] ∧ SubM X.K Z3 H3) sbu hg' hcl' hu' I2 (st.tr st2) su2 (key_rel hkey) fun s3 Z3 H3 I3 st3 su3 => ⟨rfl, Z3, H3, I3, st3, su3⟩) (fun t' s3 q => ?_) fun e s' q => hE e s' q
    obtain ⟨rfl, Z3, H3, I3, st3, su3⟩ := q
    refine wpAny_bind ?_
    have rvv : RelV y es[x].val := by rw [hval]; exact ry
    refine wpAny_mono (rv (base + piled (ps.take x) + (t'.length + 3)) (by omega) _ _ pins s3 σ Z3 H3 _ (fun t'' s'' => t'' = vt ∧ ∃ Z4 H4, L2.Inv X pins σ H4 s'' ∧ Step Z3 H3 [] Z4 H4 [] ∧ SubM X.K Z4 H4) sbu hg' hcl' hu' I3 ((st.tr st2).tr st3) su3 rvv fun s4 Z4 H4 I4 st4 su4 => ⟨rfl, Z4, H4, I4, st4, su4⟩) (fun t'' s4 q => ?_) fun e s' q => hE e s' q
    obtain ⟨rfl, Z4, H4, I4, st4, su4⟩ := q
    have stl := (st2.tr st3).tr st4
    refine wpAny_pure ?_
    refine wpAny_bind (wpAny_dictEpoch (at_ I4 stl) hd ?_)
    rw [if_neg (by simp)]
    have e1 : (ps.take x).toArray.push (t' ++ ": " ++ t'') = (ps.take (x + 1)).toArray := by
      rw [List.take_add_one, hp]
      simp
    have e2 : base + piled (ps.take x) + (t'.length + t''.length + 4) = base + piled (ps.take (x + 1)) := by omega
    refine wpAny_pure ⟨x + 1, Z4, H4, hrest, hlt, ?_, I4, stl, su4⟩
    rw [e1, e2]
  · rintro _ s' ⟨i, Z2, H2, hr, hi, rfl, I2, st2, su2⟩
    have hin : i = es.size := by
      rcases Nat.lt_or_ge i es.size with h | h
      · have e : es.size - i = (es.size - (i + 1)) + 1 := by omega
        rw [e, List.range'_succ] at hr; exact nomatch hr
      · exact Nat.le_antisymm hi h
    rw [hin, ← hlen, List.take_length]
    refine wpAny_bind (wpAny_mkStr (wpAny_pure ?_) (by simpa [dictText] using hsz0))
    have h1 := hR { s' with toks := s'.toks + 1 } Z2 H2 s'.toks (I2.tok _) (st.tr st2) su2
    simpa [dictText] using h1
end
end Mi
namespace Mi
open PySem PySem.Spec PyProof.Rows L2 Rt
section
variable {X : Cx} {n : Nat} {Z H : Hp} {as : List Addr} {d : Nat}
theorem RpJ.later {Z1 H1 : Hp} {x : V} {t : Str} (st : Step Z H [] Z1 H1 []) (h : RpJ X n Z H as d x t) : RpJ X n Z1 H1 as d x t :=
  fun base hb A g pins s σ Z2 H2 u Q sb hg hcl hu I st2 => h base hb A g pins s σ Z2 H2 u Q sb hg hcl hu I (st.tr st2)
theorem RpAll.later {Z1 H1 : Hp} (st : Step Z H [] Z1 H1 []) : ∀ {l : List V} {ts : List Str}, RpAll X n Z H as d l ts → RpAll X n Z1 H1 as d l ts
  | _, _, .nil => .nil
  | _, _, .cons h t => .cons (h.later st) (t.later st)
theorem RpKv.later {Z1 H1 : Hp} (st : Step Z H [] Z1 H1 []) {ks : List (Key × V)} {ps : List Str} (h : RpKv X n Z H as d ks ps) : RpKv X n Z1 H1 as d ks ps :=
  ⟨h.1, fun i k x e => by
    obtain ⟨kt, vt, e1, e2, e3⟩ := h.2 i k x e
    exact ⟨kt, vt, e1, e2.later st, e3.later st⟩⟩
theorem RpJ.of_is {x : V} {t : Str} (h : ∀ u, RelV x u → ReprIs X.prog X.w u t) : RpJ X n Z H as d x t :=
  fun base hb A g pins s σ Z1 H1 u Q sb hg hcl hu I st su ru hQ => h u ru base hb A X.xe s Q fun tk => hQ _ Z1 H1 (I.tok tk) (Step.refl fun _ m => m) su
theorem list_ty {pins : List (Addr × Obj)} {σ : L2.St} {s : Shared} {a : Addr} {vs : List V} (I : L2.Inv X pins σ H s) (ha : H a = some (.lst vs)) : s.TypeIs (.ref a) "list" := by
  obtain ⟨z, its, na, r, e⟩ := I.hok a _ ha
  exact ⟨_, e, rfl⟩
theorem RpJ.list {a : Addr} {vs : List V} {ts : List Str} (hna : a ∉ as) (ha : H a = some (.lst vs)) (hT : RpAll X n Z H as d vs ts) : RpJ X (n + 1) Z H (a :: as) (d + 1) (.ref a) (listText ts) := by
  intro base hb A g pins s σ Z1 H1 u Q sb hg hcl hu I st su ru hQ
  cases (show u = Value.ref a from ru)
  have ha1 := step_keep st ha id
  have hTy := list_ty I ha1
  have hT1 := hT.later st
  refine wpAny_pyReprUnder_ref (by omega) ?_
  cases vs with
  | nil =>
    cases hT
    rw [listText_nil] at hQ
    obtain ⟨z, its, na, r, e⟩ := I.hok a _ ha1
    cases r
    exact wpAny_pyReprObjUnder_list_empty hTy (by omega) e rfl ⟨_, _, rfl, hQ _ Z1 H1 (I.tok _) (Step.refl fun _ m => m) su⟩
  | cons x vs =>
    refine wpAny_pyReprObjUnder_twin (twin := "list.__repr__.under") hTy F.slot_list_repr.toG rfl (by omega) ?_
    exact call_twin_plain F.plain_list_repr_under F.entry_list_repr_under F.check_list_repr_under hTy F.slot_list_repr.toG (F.args_list_repr_1 _)
      (list_reprAtJ (R := callEnd (fun v s' => (∃ x u, v = .str x u) ∧ ∃ x u, v = .str x u ∧ Q x s') X.xe) sb hg hcl hu hna (fun _ _ q => q) ha1 hT1 hb I (Step.refl fun _ m => m) su fun s' Z2 H2 u I2 st2 su2 => ⟨⟨_, _, rfl⟩, _, _, rfl, hQ s' Z2 H2 I2 st2 su2⟩)
theorem RpJ.tup {a : Addr} {vs : List V} {ts : List Str} (hna : a ∉ as) (ha : SqT X.K H a vs) (hT : RpAll X n Z H as d vs ts) : RpJ X (n + 1) Z H (a :: as) (d + 1) (.ref a) (tupleText ts) := by
  intro base hb A g pins s σ Z1 H1 u Q sb hg hcl hu I st su ru hQ
  cases (show u = Value.ref a from ru)
  have ha1 := sqT_keep st ha
  obtain ⟨its, r, ⟨o, ho, hc, _⟩, z⟩ := I.tuple ha1
  have hTy : s.TypeIs (.ref a) "tuple" := ⟨o, ho, hc⟩
  refine wpAny_pyReprUnder_ref (by omega) ?_
  refine wpAny_pyReprObjUnder_twin (twin := "tuple.__repr__.under") hTy F.slot_tuple_repr rfl (by omega) ?_
  exact call_twin_own (F.quiet_tuple_repr_under _) F.entry_tuple_repr_under F.check_tuple_repr_under hTy F.slot_tuple_repr (F.args_tuple_repr_1 _)
    (tup_reprAtJ (R := callEnd (fun v s' => (∃ x u, v = .str x u) ∧ ∃ x u, v = .str x u ∧ Q x s') X.xe) (isGuard_tuple_repr_under _) (units_under_tuple_repr_under _ _) (dp_tup2 _ _) (by rfl) sb hg hcl hu hna (fun _ _ q => q) ha1 (hT.later st) hb I (Step.refl fun _ m => m) su fun s' Z2 H2 u I2 st2 su2 => ⟨⟨_, _, rfl⟩, _, _, rfl, hQ s' Z2 H2 I2 st2 su2⟩)
/-- a dict that is frozen is locked for good -/
theorem lock_in {pins : List (Addr × Obj)} {σ : L2.St} {s : Shared} {a : Addr} {ks : List (Key × V)} (I : L2.Inv X pins σ H s) (su : SubM X.K Z H) (hz : ∃ z, Z a = some z) (ra : Rd H a (.dK ks)) : ∃ o H1, L2.Inv X pins σ H1 s ∧ Step Z H [] Z H1 [] ∧ SubM X.K Z H1 ∧ H1 a = some (.frz o (.dK ks)) := by
  rcases ra with ha | ⟨o, ha⟩
  · obtain ⟨o, I1⟩ := I.lock ha trivial
    refine ⟨o, _, I1, ⟨fun c w e n => ?_, fun c m => (nomatch m), Le.refl _, fun c w e => .inl e⟩, ⟨⟨fun c w e nt => ?_, fun c m e => tabS_upd (su.tb c m e) fun o0 h0 => by rw [ha] at h0; cases h0; exact id⟩, su.tm⟩, upd_same⟩
    · by_cases q : c = a
      · subst q
        rw [ha] at e; cases e
        exact .inr ⟨hz, .inl ⟨trivial, o, upd_same⟩⟩
      · exact .inl (by rw [upd_ne q]; exact e)
    · by_cases q : c = a
      · subst q
        rcases su.fz _ _ e nt with z | ⟨_, _, z⟩
        · rw [ha] at z; cases z
          exact .inr ⟨trivial, o, upd_same⟩
        · rw [ha] at z; cases z
      · rw [upd_ne q]; exact su.fz _ _ e nt
  · exact ⟨o, H, I, Step.refl fun _ m => m, su, ha⟩
theorem RpJ.dict {a : Addr} {ks : List (Key × V)} {ps : List Str} (hna : a ∉ as) (hz : Z a = some (.dK ks)) (hT : RpKv X n Z H as d ks ps) : RpJ X (n + 1) Z H (a :: as) (d + 1) (.ref a) (dictText ps) := by
  intro base hb A g pins s σ Z1 H1 u Q sb hg hcl hu I st su ru hQ
  cases (show u = Value.ref a from ru)
  obtain ⟨o, H2, I2, st2, su2, ha2⟩ := lock_in I su ⟨_, st.z _ _ hz⟩ (su.rd (st.z _ _ hz))
  obtain ⟨_, hsys, va, ra, da⟩ := dk_rd I2.hok (.inr ⟨_, ha2⟩)
  have hTy := da.typeIs
  refine wpAny_pyReprUnder_ref (by omega) ?_
  refine wpAny_pyReprObjUnder_twin (twin := "dict.__repr__.under") hTy F.slot_dict_repr rfl (by omega) ?_
  exact call_twin_own (F.quiet_dict_repr_under _) F.entry_dict_repr_under F.check_dict_repr_under hTy F.slot_dict_repr (F.args_dict_repr_1 _)
    (dict_reprAtJ (R := callEnd (fun v s' => (∃ x u, v = .str x u) ∧ ∃ x u, v = .str x u ∧ Q x s') X.xe) (isGuard_dict_repr_under _) (units_under_dict_repr_under _ _) (dp_dict2 _ _) (by rfl) sb hg hcl hu hna (fun _ _ q => q) ((hT.later st).later st2) hb I2 ha2 (Step.refl fun _ m => m) su2 fun s' Z3 H3 u I3 st3 su3 => ⟨⟨_, _, rfl⟩, _, _, rfl, hQ s' Z3 H3 I3 (st2.tr st3) su3⟩)
theorem call_sub {CX : CXT} {f : Addr} {fd : FuncData} {ps : List Str} {sp : Sp} {E : XK} {pins : List (Addr × Obj)} {σ : L2.St} {s : Shared} {Q : VK} {us : List Value} {vs : List V} {A : Around} (F : FnOk X.prog X.w X.K X.mg X.base CX n f fd ps sp) (sb : L2.Sub X n A) (hb : Binds X.K fd ps []) (hx : Passes CX X E)
    (I : L2.Inv X pins σ H s) (r : Vals vs us) (h : sp vs H Q E) : wpAny (model X.prog X.w) A (call (.ref f) us) (EP X pins σ Q) X.xe s := by
  have hn : us.length = ps.length := r.length.symm.trans (F.len _ _ _ _ h)
  have bind := hb s us I.kIn (by simpa using hn)
  rw [List.append_nil] at bind
  have e0 : Env0 X.prog X.w X.K X.mg X.base A X.stack s H := by
    have e := I.env0
    exact ⟨by rw [sb.fr]; exact e.frames, e.mod, e.bs, e.bsz, e.funs, e.frf, e.hok, e.bare⟩
  refine wpAny_call (codeAny_mono (F.run A X.stack s H ⟨us, []⟩ us vs Q E sb.room e0 bind r h) fun o s' q => ?_)
  match o, q with
  | .error e, q => exact hx pins σ H s e s' I q
  | .ok (.ret u), q => exact I.after q
  | .ok .next, q => exact q.elim
  | .ok .brk, q => exact q.elim
  | .ok .cont, q => exact q.elim
open PySem.W in
theorem reprUnder_own {M : Model} {A : Around} {E : Value → Shared → Prop} {s : Shared} {K : PySem.W.Frag} {x C f : Addr} {ox : Obj} {od : Option Obj} {b : Nat} {Q : Value → Shared → Prop} (hu : A.units < cLine) (XK : K.In s.heap) (J : InstAt s.heap x ox C od) (hs : findIn K (.ref C) "__repr__" = some (some (.ref f))) (hf : isFn K (.ref f) = true)
    (h : wpAny M A (call (.ref f) [.ref x]) (fun v s' => (∃ t u, v = .str t u) ∧ Q v s') E s) : wpAny M A (pyReprObjUnder b (.ref x)) Q E s := by
  have hs' : findIn K (.ref C) (Str.ofString "__repr__") = some (some (.ref f)) := hs
  unfold pyReprObjUnder pyReprObjBy
  refine wpAny_bind (wpAny_cRoomFor hu ?_)
  refine wpAny_bind (wpAny_bind (J.type.here ((looks_findIn XK hs').here ?_)))
  show wpAny _ _ (if (some (Value.ref f)).isNone = true then _ else _) _ _ _
  rw [if_neg (by simp)]
  refine wpAny_bind (m := callSpecialIfBoundBy? _ (.ref x) (Str.ofString "__repr__")) ?_
  simp only [callSpecialIfBoundBy?, bindSpecialIfBound?]
  refine wpAny_holding (wpAny_bind (wpAny_bind (wpAny_bind (J.type.here ((looks_findIn XK hs').here ?_)))))
  refine wpAny_bind (wpAny_askSetting (wpAny_ite ?_))
  have fin : ∀ {Q' : Option Value → Shared → Prop}, wpAny M A (call (.ref f) ([.ref x] ++ [])) (fun v => Q' (some v)) E s → wpAny M A (call (.ref f) ([.ref x] ++ []) >>= fun v => pure (some v)) Q' E s := fun h => wpAny_bind (wpAny_mono h (fun v s' h' => wpAny_pure h') fun _ _ h' => h')
  have last : wpAny M A (call (.ref f) ([.ref x] ++ [])) (fun v s' => wpAny M A (do if (← isInstance v (.type "str")) = true then pure v else raiseError "TypeError" s!"__repr__ returned non-string (type {← typeNameOf v})") Q E s') E s := by
    refine wpAny_mono h (fun v s' hv => ?_) fun _ _ z => z
    obtain ⟨⟨t, u, rfl⟩, hq⟩ := hv
    exact wpAny_bind (wpAny_isInstance (T := "str") (b := true) rfl isSubtype_str_str (wpAny_pure hq))
  split
  · exact wpAny_bind ((bind_fn XK _ (beq_iff_eq.mp hf)).here (wpAny_pure (by exact fin last)))
  · exact wpAny_tryCatch (wpAny_bind ((bind_fn XK _ (beq_iff_eq.mp hf)).here (wpAny_pure (by exact fin last))))
end
end Mi
namespace Mi
open PySem PySem.Spec PyProof.Rows L2 Rt
/-- what a def of one frozen argument gives, told of the argument alone -/
theorem sp_fz1 {K : PySem.W.Frag} {Z H : Hp} {x : V} {d : D} {m : Fm} {t : Str} {as' : List Sl} {E0 : XK} (s : SubM K Z H) (hr : FRep K Z x d) (em : m [.fz d] = .ret (.fz (.str t)) as') :
    spM K m [x] H (fun z H' => z = .str t ∧ ∃ Z', Step Z H [] Z' H' [] ∧ SubM K Z' H') E0 := by
  refine ⟨Z, [⟨some x, .fz d, []⟩], ⟨s, by simp [fpsOf], fun a m => by simp [fpsOf] at m, fun e m => ?_⟩, rfl, ?_⟩
  · simp only [List.nil_append, List.mem_cons, List.not_mem_nil, or_false] at m
    subst m
    exact ⟨_, rfl, hr, rfl⟩
  · show match m [.fz d] with
      | .ret r as' => _
      | .exc _ _ _ => _
      | .stuck => _
    rw [em]
    intro Z' H' ts' v' fv st sa _ _
    obtain ⟨x', e1, e2, _⟩ := sa.ok ⟨some v', .fz (.str t), fv⟩ (by simp)
    cases e1
    cases e2.leaf_of (d := .str t) rfl
    exact ⟨rfl, Z', ⟨st.keep, fun c m => (nomatch m), st.z, st.zn⟩, sa.sub⟩
section
variable {X : Cx} {n : Nat} {Z H : Hp} {as : List Addr} {d : Nat}
/-- an own instance -/
theorem RpJ.own {CX : CXT} {c : Str} {m : Fm} {E0 : XK} {f : Addr} {fd : FuncData} {ps : List Str} (F : FnOk X.prog X.w X.K X.mg X.base CX n f fd ps (spM X.K m)) (hs : PySem.W.findIn X.K (.ref (He.ga X.K c)) "__repr__" = some (some (.ref f))) (hf : PySem.W.isFn X.K (.ref f) = true)
    (hb : Binds X.K fd ps []) (hx : Passes CX X E0) {x : V} {fs : List (Str × D)} {t : Str} {as' : List Sl} (hr : FRep X.K Z x (.ins c fs)) (em : m [.fz (.ins c fs)] = .ret (.fz (.str t)) as') : RpJ X n Z H as d x t := by
  intro base hbz A g pins s σ Z1 H1 u Q sb hg hcl hu I st su ru hQ
  have hr1 := hr.mono st.z
  obtain ⟨a, dx, gs, rfl, ha, _, _⟩ := FRep.ins_of su.toSub hr1
  cases (show u = Value.ref a from ru)
  refine wpAny_pyReprUnder_ref (by omega) ?_
  obtain ⟨_, J, _⟩ := ins_get I.hok ha
  obtain ⟨_, J, _⟩ := J.look
  refine reprUnder_own (by omega) I.kIn J hs hf ?_
  refine wpAny_mono (call_sub (us := [.ref a]) (vs := [.ref a]) F sb hb hx I (.cons rfl .nil) (sp_fz1 su hr1 em)) (fun r s' out => ?_) fun _ _ e => e
  obtain ⟨z, H', I', rz, ez, Z', st', su'⟩ := out
  subst ez
  obtain ⟨tk, rfl⟩ := rz
  exact ⟨⟨t, tk, rfl⟩, t, tk, rfl, hQ _ Z' H' I' st' su'⟩
end
def shwL (f : D → Option Str) : List D → Option (List Str)
  | [] => some []
  | d :: r => (f d).bind fun t => (shwL f r).map (t :: ·)
def shwI (i : Int) : Option Str := if i.natAbs.log2 < 1920 then some (toString i) else none
def shwS (x : Str) : Option Str := if (reprText x).length ≤ sizeLine then some (reprText x) else none
def keyTx : Key → Option Str
  | .inl i => shwI i
  | .inr x => shwS x
def shwK (f : D → Option Str) : List (Key × D) → Option (List Str)
  | [] => some []
  | p :: r => (keyTx p.1).bind fun k => (f p.2).bind fun t => (shwK f r).map ((k ++ ": " ++ t) :: ·)
/-- what an own __repr__ or __str__ gives -/
def ownS (m : Fm) (d : D) : Option Str := match m [.fz d] with
  | .ret (.fz (.str t)) _ => some t
  | _ => none
def shw (c : Str) (m : Fm) : Nat → D → Option Str
  | _, .non => some "None"
  | _, .bl b => some (if b then "True" else "False")
  | _, .int i => shwI i
  | _, .str x => shwS x
  | _, .ins c1 fs => if c1 = c then ownS m (.ins c1 fs) else none
  | k + 1, .lst xs => (shwL (shw c m k) xs).map listText
  | k + 1, .tup xs => (shwL (shw c m k) xs).map tupleText
  | k + 1, .dk kvs => (shwK (shw c m k) kvs).map dictText
  | _, _ => none
theorem ownS_some {m : Fm} {d : D} {t : Str} (h : ownS m d = some t) : ∃ as', m [.fz d] = .ret (.fz (.str t)) as' := by
  unfold ownS at h
  split at h
  · rename_i e; cases h; exact ⟨_, e⟩
  · cases h
theorem shwI_some {i : Int} {t : Str} (h : shwI i = some t) : i.natAbs.log2 < 1920 ∧ t = toString i := by
  unfold shwI at h
  split at h
  · rename_i e; cases h; exact ⟨e, rfl⟩
  · cases h
theorem shwS_some {x t : Str} (h : shwS x = some t) : (reprText x).length ≤ sizeLine ∧ t = reprText x := by
  unfold shwS at h
  split at h
  · rename_i e; cases h; exact ⟨e, rfl⟩
  · cases h
def itsOf (h : Heap) (a : Addr) : Option (List Value) := match h.get? a with
  | some o => match o.data with
    | .seq vs _ => some vs.toList
    | .dict es _ => some (es.toList.map (·.val))
    | _ => none
  | none => none
def AtM (h : Heap) : Nat → Addr → Prop
  | 0, a => itsOf h a = none
  | n + 1, a => ∀ us, itsOf h a = some us → ∀ b, Value.ref b ∈ us → AtM h n b
def AtV (h : Heap) (n : Nat) : V → Prop
  | .ref a => AtM h n a
  | _ => True
theorem AtM.up {h : Heap} : ∀ {n : Nat} {a : Addr}, AtM h n a → AtM h (n + 1) a
  | 0, a, z => fun us e => by rw [show itsOf h a = none from z] at e; cases e
  | n + 1, a, z => fun us e b m => AtM.up (z us e b m)
theorem AtV.up {h : Heap} {n : Nat} {v : V} (z : AtV h n v) : AtV h (n + 1) v := by
  cases v with
  | ref a => exact AtM.up (show AtM h n a from z)
  | _ => trivial
theorem AtM.none {h : Heap} {a : Addr} (z : itsOf h a = Option.none) : ∀ n, AtM h n a
  | 0 => z
  | n + 1 => fun us e => by rw [z] at e; cases e
theorem rel_ref {x : V} {b : Addr} (r : RelV x (.ref b)) : x = .ref b := by
  cases x with
  | ref a => cases (show Value.ref b = Value.ref a from r); rfl
  | non => cases (show Value.ref b = Value.none from r)
  | bl z => cases (show Value.ref b = Value.bool z from r)
  | int z => obtain ⟨_, q⟩ := r; cases q
  | str z => obtain ⟨_, q⟩ := r; cases q
  | byt z => obtain ⟨_, q⟩ := r; cases q
  | flt z => obtain ⟨_, q⟩ := r; cases q
  | ty z => cases (show Value.ref b = Value.type z from r)
theorem vals_mem : ∀ {vs : List V} {us : List Value} {b : Addr}, Vals vs us → Value.ref b ∈ us → ∃ i : Nat, vs[i]? = some (V.ref b)
  | _, _, _, .nil, m => nomatch m
  | _ :: _, _ :: _, _, .cons r t, m => by
    rcases List.mem_cons.mp m with e | m
    · subst e
      obtain rfl := rel_ref r
      exact ⟨0, rfl⟩
    · obtain ⟨i, e⟩ := vals_mem t m
      exact ⟨i + 1, by simpa using e⟩
section
variable {X : Cx} {pins : List (Addr × Obj)} {σ : L2.St} {H : Hp} {s : Shared} {a : Addr}
theorem its_lst {vs : List V} (I : L2.Inv X pins σ H s) (h : H a = some (.lst vs)) : ∃ us, itsOf s.heap a = some us ∧ Vals vs us := by
  obtain ⟨z, its, na, r, e⟩ := I.hok a _ h
  exact ⟨its, by unfold itsOf; rw [e], r⟩
theorem its_tup {vs : List V} (I : L2.Inv X pins σ H s) (h : SqT X.K H a vs) : ∃ us, itsOf s.heap a = some us ∧ Vals vs us := by
  obtain ⟨its, r, ⟨o, ho, hc, m, hd⟩, z⟩ := I.tuple h
  refine ⟨its, ?_, r⟩
  unfold itsOf
  rw [ho]
  dsimp only
  rw [hd]
theorem vals_snd : ∀ {ks : List (Key × V)} {va : List (Key × Value)}, Paired (fun p q => p.1 = q.1 ∧ RelV p.2 q.2) ks va → Vals (ks.map (·.2)) (va.map (·.2))
  | _, _, .nil => .nil
  | _, _, .cons r t => .cons r.2 (vals_snd t)
theorem its_dk {ks : List (Key × V)} (I : L2.Inv X pins σ H s) (h : Rd H a (.dK ks)) : ∃ us, itsOf s.heap a = some us ∧ Vals (ks.map (·.2)) us := by
  obtain ⟨_, hsys, va, ra, da⟩ := dk_rd I.hok h
  obtain ⟨o', es, ep, ho', hcls, hd, hka, hpa, _⟩ := da
  have lv : va.length = es.size := by rw [← hpa.length]; exact Array.length_toList
  have e : es.toList.map (·.val) = va.map (·.2) := by
    refine List.ext_getElem? fun i => ?_
    rw [List.getElem?_map, List.getElem?_map]
    rcases Nat.lt_or_ge i es.size with hlt | hge
    · have hk? : va[i]? = some (va[i]'(by omega)) := List.getElem?_eq_getElem (by omega)
      obtain ⟨k, v, hkv⟩ : ∃ k v, va[i]'(by omega) = (k, v) := ⟨_, _, rfl⟩
      rw [hkv] at hk?
      have he : es.toList[i]? = some es[i] := by rw [Array.getElem?_toList]; exact Array.getElem?_eq_getElem hlt
      obtain ⟨_, hval⟩ := hpa.get? (i := i) (e := es[i]) (k := k) (v := v) he hk?
      rw [he, hk?]
      show some es[i].val = some v
      rw [hval]
    · rw [List.getElem?_eq_none (by rw [Array.length_toList]; exact hge), List.getElem?_eq_none (by omega)]
      rfl
  refine ⟨es.toList.map (·.val), by unfold itsOf; rw [ho']; dsimp only; rw [hd], ?_⟩
  rw [e]
  exact vals_snd ra
end
end Mi
namespace Mi
open PySem PySem.Spec PyProof.Rows L2 Rt
theorem FRep.nref {K : PySem.W.Frag} {Z : Hp} {v : V} {d : D} (h : FRep K Z v d) (hd : dview K d = none) (ho : ∀ x, d ≠ .obj x) (a : Addr) : v ≠ .ref a := by
  have l := h.leaf_of hd
  cases l with
  | obj x => exact absurd rfl (ho x)
  | _ => intro z; cases z
/-- what an own __repr__ asks -/
structure Own (X : Cx) (n : Nat) (c : Str) (m : Fm) : Prop where
  run : ∀ {Z H : Hp} {x : V} {fs : List (Str × D)} {t : Str} {as' : List Sl} {as : List Addr} {d : Nat}, FRep X.K Z x (.ins c fs) → m [.fz (.ins c fs)] = .ret (.fz (.str t)) as' → RpJ X n Z H as d x t
section
variable {X : Cx} {pins : List (Addr × Obj)} {σ : L2.St} {Z H : Hp} {s : Shared} {c : Str} {m : Fm} {n : Nat}
theorem shwL_get {f : D → Option Str} : ∀ {ds : List D} {ts : List Str} {i : Nat} {d : D}, shwL f ds = some ts → ds[i]? = some d → ∃ t, f d = some t
  | [], _, _, _, _, e => by simp at e
  | d :: r, ts, 0, d', h, e => by
    simp at e; subst e
    unfold shwL at h
    obtain ⟨t, h1, _⟩ := Option.bind_eq_some_iff.mp h
    exact ⟨t, h1⟩
  | d :: r, ts, i + 1, d', h, e => by
    unfold shwL at h
    obtain ⟨t, h1, h2⟩ := Option.bind_eq_some_iff.mp h
    obtain ⟨ts', h3, _⟩ := Option.map_eq_some_iff.mp h2
    exact shwL_get h3 (by simpa using e)
theorem shwK_get {f : D → Option Str} : ∀ {ds : List (Key × D)} {ts : List Str} {i : Nat} {p : Key × D}, shwK f ds = some ts → ds[i]? = some p → ∃ t, f p.2 = some t
  | [], _, _, _, _, e => by simp at e
  | d :: r, ts, 0, d', h, e => by
    simp at e; subst e
    unfold shwK at h
    obtain ⟨_, _, h⟩ := Option.bind_eq_some_iff.mp h
    obtain ⟨t, h1, _⟩ := Option.bind_eq_some_iff.mp h
    exact ⟨t, h1⟩
  | d :: r, ts, i + 1, d', h, e => by
    unfold shwK at h
    obtain ⟨_, _, h⟩ := Option.bind_eq_some_iff.mp h
    obtain ⟨t, h1, h2⟩ := Option.bind_eq_some_iff.mp h
    obtain ⟨ts', h3, _⟩ := Option.map_eq_some_iff.mp h2
    exact shwK_get h3 (by simpa using e)
theorem FReps.at {K : PySem.W.Frag} : ∀ {vs : List V} {ds : List D} {i : Nat} {v : V}, FReps K Z vs ds → vs[i]? = some v → ∃ d, ds[i]? = some d ∧ FRep K Z v d
  | _, _, _, _, .nil, e => by simp at e
  | _, _, 0, _, .cons r _, e => by simp at e; subst e; exact ⟨_, rfl, r⟩
  | _, _, i + 1, _, .cons _ t, e => by simpa using FReps.at (i := i) t (by simpa using e)
theorem FRep.tup_z {K : PySem.W.Frag} {v : V} {ds : List D} (su : Sub Z H) (h : FRep K Z v (.tup ds)) : ∃ a vs, v = .ref a ∧ SqT K H a vs ∧ FReps K Z vs ds := by
  obtain ⟨a, vs, h1, h2, h3⟩ := h.node_of (k := .tup) (ds := ds) rfl
  refine ⟨a, vs, h1, ?_, h2⟩
  rcases h3 with ⟨o, h3, h4⟩ | h3
  · rw [oview_tup h4] at h3
    rcases su.fz _ _ h3 id with z | ⟨z, _⟩
    · exact .inl (.inl z)
    · exact z.elim
  · exact sqT_wr su h3
theorem map_at {α β : Type} {f : α → β} {l : List α} {i : Nat} {y : β} (h : (l.map f)[i]? = some y) : ∃ x, l[i]? = some x ∧ f x = y := by
  rw [List.getElem?_map] at h
  cases e : l[i]? with
  | none => rw [e] at h; cases h
  | some x => rw [e] at h; cases h; exact ⟨x, rfl, rfl⟩
/-- how deep what has a text can be -/
theorem shw_ins (I : L2.Inv X pins σ H s) (su : SubM X.K Z H) {c1 : Str} {fs : List (Str × D)} {a : Addr} (hr : FRep X.K Z (.ref a) (.ins c1 fs)) (k : Nat) : AtM s.heap k a := by
  obtain ⟨a', dx, gs, e, ha, _, _⟩ := FRep.ins_of su.toSub hr
  cases e
  obtain ⟨_, J, _⟩ := ins_get I.hok ha
  refine AtM.none ?_ _
  unfold itsOf
  rw [J.obj] <;> rfl
theorem shw_at (I : L2.Inv X pins σ H s) (su : SubM X.K Z H) : ∀ (k : Nat) {v : V} {d : D} {t : Str}, FRep X.K Z v d → shw c m k d = some t → AtV s.heap k v := by
  intro k
  induction k with
  | zero =>
    intro v d t hr h
    cases v with
    | ref a =>
      cases d with
      | ins c1 fs => exact shw_ins I su hr 0
      | non => exact absurd rfl (hr.nref rfl (by intro x z; cases z) a)
      | bl _ => exact absurd rfl (hr.nref rfl (by intro x z; cases z) a)
      | int _ => exact absurd rfl (hr.nref rfl (by intro x z; cases z) a)
      | str _ => exact absurd rfl (hr.nref rfl (by intro x z; cases z) a)
      | _ => simp [shw] at h
    | _ => trivial
  | succ k ih =>
    intro v d t hr h
    cases v with
    | ref a =>
      cases d with
      | ins c1 fs => exact shw_ins I su hr (k + 1)
      | non => exact absurd rfl (hr.nref rfl (by intro x z; cases z) a)
      | bl _ => exact absurd rfl (hr.nref rfl (by intro x z; cases z) a)
      | int _ => exact absurd rfl (hr.nref rfl (by intro x z; cases z) a)
      | str _ => exact absurd rfl (hr.nref rfl (by intro x z; cases z) a)
      | lst xs =>
        obtain ⟨ts, h1, _⟩ := Option.map_eq_some_iff.mp (show (shwL (shw c m k) xs).map listText = some t from h)
        obtain ⟨a', vs, e, ha, hs⟩ := FRep.lst_of su.toSub hr
        cases e
        obtain ⟨us, e1, r⟩ := its_lst I ha
        intro us' e2 b mb
        rw [e1] at e2; cases e2
        obtain ⟨i, hi⟩ := vals_mem r mb
        obtain ⟨d', hd, fr⟩ := FReps.at hs hi
        obtain ⟨t', ht⟩ := shwL_get h1 hd
        exact ih fr ht
      | tup xs =>
        obtain ⟨ts, h1, _⟩ := Option.map_eq_some_iff.mp (show (shwL (shw c m k) xs).map tupleText = some t from h)
        obtain ⟨a', vs, e, ha, hs⟩ := FRep.tup_z su.toSub hr
        cases e
        obtain ⟨us, e1, r⟩ := its_tup I ha
        intro us' e2 b mb
        rw [e1] at e2; cases e2
        obtain ⟨i, hi⟩ := vals_mem r mb
        obtain ⟨d', hd, fr⟩ := FReps.at hs hi
        obtain ⟨t', ht⟩ := shwL_get h1 hd
        exact ih fr ht
      | dk kvs =>
        obtain ⟨ts, h1, _⟩ := Option.map_eq_some_iff.mp (show (shwK (shw c m k) kvs).map dictText = some t from h)
        obtain ⟨a', gs, e, ha, hk, hs⟩ := FRep.dk_of su.toSub hr
        cases e
        obtain ⟨us, e1, r⟩ := its_dk I ha
        intro us' e2 b mb
        rw [e1] at e2; cases e2
        obtain ⟨i, hi⟩ := vals_mem r mb
        obtain ⟨d', hd, fr⟩ := FReps.at hs hi
        obtain ⟨p, hp, e3⟩ := map_at hd
        subst e3
        obtain ⟨t', ht⟩ := shwK_get h1 hp
        exact ih fr ht
      | _ => simp [shw] at h
    | _ => trivial
abbrev RpX (X : Cx) (N : Nat) (Z H : Hp) (h : Heap) (j : Nat) (v : V) (t : Str) : Prop := ∃ as, (∀ b ∈ as, AtM h j b) ∧ RpJ X (N + j) Z H as j v t
theorem rp_all {N j : Nat} {h : Heap} {f : D → Option Str} (ih : ∀ {v : V} {d : D} {t : Str}, FRep X.K Z v d → f d = some t → AtV h j v → RpX X N Z H h j v t) :
    ∀ {vs : List V} {ds : List D} {ts : List Str}, FReps X.K Z vs ds → shwL f ds = some ts → (∀ v ∈ vs, AtV h j v) → ∃ as, (∀ b ∈ as, AtM h j b) ∧ RpAll X (N + j) Z H as j vs ts
  | _, _, _, .nil, e, _ => by cases e; exact ⟨[], (fun _ m => nomatch m), .nil⟩
  | _, _, _, .cons r rs, e, hv => by
    unfold shwL at e
    obtain ⟨t, h1, h2⟩ := Option.bind_eq_some_iff.mp e
    obtain ⟨ts', h3, h4⟩ := Option.map_eq_some_iff.mp h2
    subst h4
    obtain ⟨a1, p1, q1⟩ := ih r h1 (hv _ List.mem_cons_self)
    obtain ⟨a2, p2, q2⟩ := rp_all ih rs h3 fun v m => hv v (List.mem_cons_of_mem _ m)
    refine ⟨a1 ++ a2, fun b m => (List.mem_append.mp m).elim (p1 b) (p2 b), .cons (q1.more (fun b m => List.mem_append_left _ m) (Nat.le_refl _)) (q2.more (fun b m => List.mem_append_right _ m) (Nat.le_refl _))⟩
theorem rp_key {N : Nat} {as : List Addr} {d : Nat} {k : Key} {t : Str} (h : keyTx k = some t) : RpJ X N Z H as d (kV k) t := by
  cases k with
  | inl i =>
    obtain ⟨h1, rfl⟩ := shwI_some h
    exact RpJ.of_is fun u ⟨tk, e⟩ => by subst e; exact ReprIs.int tk h1
  | inr x =>
    obtain ⟨h1, rfl⟩ := shwS_some h
    exact RpJ.of_is fun u ⟨tk, e⟩ => by subst e; exact ReprIs.str x tk h1
theorem RpKv.cons {N : Nat} {as : List Addr} {d : Nat} {k : Key} {x : V} {kt vt : Str} {ks : List (Key × V)} {ps : List Str} (h1 : RpJ X N Z H as d (kV k) kt) (h2 : RpJ X N Z H as d x vt) (h : RpKv X N Z H as d ks ps) : RpKv X N Z H as d ((k, x) :: ks) ((kt ++ ": " ++ vt) :: ps) := by
  refine ⟨congrArg (· + 1) h.1, fun i k' x' e => ?_⟩
  cases i with
  | zero => simp at e; obtain ⟨rfl, rfl⟩ := e; exact ⟨kt, vt, rfl, h1, h2⟩
  | succ i =>
    obtain ⟨a, b, e1, e2, e3⟩ := h.2 i k' x' (by simpa using e)
    exact ⟨a, b, by simpa using e1, e2, e3⟩
theorem RpKv.more {N : Nat} {as as' : List Addr} {d : Nat} {ks : List (Key × V)} {ps : List Str} (hs : ∀ b ∈ as, b ∈ as') (h : RpKv X N Z H as d ks ps) : RpKv X N Z H as' d ks ps :=
  ⟨h.1, fun i k x e => by
    obtain ⟨kt, vt, e1, e2, e3⟩ := h.2 i k x e
    exact ⟨kt, vt, e1, e2.more hs (Nat.le_refl _), e3.more hs (Nat.le_refl _)⟩⟩
theorem rp_kv {N j : Nat} {h : Heap} {f : D → Option Str} (ih : ∀ {v : V} {d : D} {t : Str}, FRep X.K Z v d → f d = some t → AtV h j v → RpX X N Z H h j v t) :
    ∀ {gs : List (Key × V)} {ks : List (Key × D)} {ts : List Str}, gs.map (·.1) = ks.map (·.1) → FReps X.K Z (gs.map (·.2)) (ks.map (·.2)) → shwK f ks = some ts → (∀ p ∈ gs, AtV h j p.2) → ∃ as, (∀ b ∈ as, AtM h j b) ∧ RpKv X (N + j) Z H as j gs ts
  | [], [], _, _, _, e, _ => by cases e; exact ⟨[], (fun _ m => nomatch m), rfl, fun i k x e => nomatch e⟩
  | (k, v) :: gs, (k', d) :: ks, _, ek, hs, e, hv => by
    simp only [List.map_cons, List.cons.injEq] at ek hs
    obtain ⟨rfl, ek⟩ := ek
    cases hs with
    | cons r rs =>
      unfold shwK at e
      obtain ⟨kt, h0, e⟩ := Option.bind_eq_some_iff.mp e
      obtain ⟨t, h1, h2⟩ := Option.bind_eq_some_iff.mp e
      obtain ⟨ts', h3, h4⟩ := Option.map_eq_some_iff.mp h2
      subst h4
      obtain ⟨a1, p1, q1⟩ := ih r h1 (hv _ List.mem_cons_self)
      obtain ⟨a2, p2, q2⟩ := rp_kv ih ek rs h3 fun v m => hv v (List.mem_cons_of_mem _ m)
      exact ⟨a1 ++ a2, fun b m => (List.mem_append.mp m).elim (p1 b) (p2 b), .cons (rp_key h0) (q1.more (fun b m => List.mem_append_left _ m) (Nat.le_refl _)) (q2.more fun b m => List.mem_append_right _ m)⟩
  | [], _ :: _, _, e, _, _, _ => by cases e
  | _ :: _, [], _, e, _, _, _ => by cases e
theorem ats_of {a : Addr} {j : Nat} {vs : List V} {us : List Value} (e : itsOf s.heap a = some us) (r : Vals vs us) (h : AtM s.heap (j + 1) a) : ∀ v ∈ vs, AtV s.heap j v := by
  intro v m
  cases v with
  | ref b =>
    obtain ⟨i, hi⟩ := List.mem_iff_getElem?.mp m
    obtain ⟨u, hu, ru⟩ := r.get hi
    cases (show u = Value.ref b from ru)
    exact h us e b (List.mem_of_getElem? hu)
  | _ => trivial
theorem rp_of {N : Nat} (I : L2.Inv X pins σ H s) (su : SubM X.K Z H) (ow : Own X N c m) : ∀ (j k : Nat) {v : V} {d : D} {t : Str}, FRep X.K Z v d → shw c m k d = some t → AtV s.heap j v → RpX X N Z H s.heap j v t := by
  intro j
  induction j with
  | zero =>
    intro k v d t hr h hv
    have leaf : (∀ u, RelV v u → ReprIs X.prog X.w u t) → RpX X N Z H s.heap 0 v t := fun z => ⟨[], (fun _ m => nomatch m), RpJ.of_is z⟩
    cases d with
    | non =>
      obtain rfl : v = .non := by have l := hr.leaf_of (d := .non) rfl; cases l; rfl
      obtain rfl : "None" = t := by cases k <;> exact Option.some.inj h
      exact leaf fun u e => by cases e; exact ReprIs.none
    | bl b =>
      obtain rfl : v = .bl b := by have l := hr.leaf_of (d := .bl b) rfl; cases l; rfl
      obtain rfl : ((if b then "True" else "False") : Str) = t := by cases k <;> exact Option.some.inj h
      exact leaf fun u e => by cases e; exact ReprIs.bool b
    | int i =>
      obtain rfl : v = .int i := by have l := hr.leaf_of (d := .int i) rfl; cases l; rfl
      obtain ⟨h1, rfl⟩ := shwI_some (i := i) (t := t) (by cases k <;> exact h)
      exact leaf fun u ⟨tk, e⟩ => by subst e; exact ReprIs.int tk h1
    | str x =>
      obtain rfl : v = .str x := by have l := hr.leaf_of (d := .str x) rfl; cases l; rfl
      obtain ⟨h1, rfl⟩ := shwS_some (x := x) (t := t) (by cases k <;> exact h)
      exact leaf fun u ⟨tk, e⟩ => by subst e; exact ReprIs.str x tk h1
    | ins c1 fs =>
      have hw : (if c1 = c then ownS m (.ins c1 fs) else none) = some t := by cases k <;> exact h
      split at hw
      · rename_i ec
        subst ec
        obtain ⟨as', em⟩ := ownS_some hw
        exact ⟨[], (fun _ m => nomatch m), ow.run hr em⟩
      · cases hw
    | lst xs =>
      obtain ⟨a', vs, rfl, ha, hs⟩ := FRep.lst_of su.toSub hr
      obtain ⟨us, e1, r⟩ := its_lst I ha
      rw [show itsOf s.heap a' = none from hv] at e1; cases e1
    | tup xs =>
      obtain ⟨a', vs, rfl, ha, hs⟩ := FRep.tup_z su.toSub hr
      obtain ⟨us, e1, r⟩ := its_tup I ha
      rw [show itsOf s.heap a' = none from hv] at e1; cases e1
    | dk xs =>
      obtain ⟨a', gs, rfl, ha, hk, hs⟩ := FRep.dk_of su.toSub hr
      obtain ⟨us, e1, r⟩ := its_dk I ha
      rw [show itsOf s.heap a' = none from hv] at e1; cases e1
    | _ => cases k <;> cases h
  | succ j ih =>
    intro k v d t hr h hv
    by_cases hj : AtV s.heap j v
    · obtain ⟨as, p, q⟩ := ih k hr h hj
      exact ⟨as, fun b mb => (p b mb).up, (q.more (fun _ m => m) (Nat.le_succ _)).deep (by omega)⟩
    · have nj : ∀ {as : List Addr} {a : Addr}, v = .ref a → (∀ b ∈ as, AtM s.heap j b) → a ∉ as := fun e p mb => hj (by rw [e]; exact p _ mb)
      have up : ∀ {as : List Addr} {a : Addr}, v = .ref a → (∀ b ∈ as, AtM s.heap j b) → ∀ b ∈ a :: as, AtM s.heap (j + 1) b := fun e p b mb => by
        rcases List.mem_cons.mp mb with rfl | mb
        · rw [e] at hv; exact hv
        · exact (p b mb).up
      have no : dview X.K d = none → (∀ x, d ≠ .obj x) → False := fun h1 h2 => by
        have z := hr.nref h1 h2
        cases v with
        | ref a => exact z a rfl
        | _ => exact hj trivial
      cases d with
      | non => exact (no rfl (by intro x z; cases z)).elim
      | bl b => exact (no rfl (by intro x z; cases z)).elim
      | int i => exact (no rfl (by intro x z; cases z)).elim
      | str x => exact (no rfl (by intro x z; cases z)).elim
      | ins c1 fs =>
        obtain ⟨a', _, _, rfl, _, _, _⟩ := FRep.ins_of su.toSub hr
        exact (hj (shw_ins I su hr j)).elim
      | lst xs =>
        cases k with
        | zero => cases h
        | succ k =>
          obtain ⟨ts, h1, rfl⟩ := Option.map_eq_some_iff.mp (show (shwL (shw c m k) xs).map listText = some t from h)
          obtain ⟨a', vs, rfl, ha, hs⟩ := FRep.lst_of su.toSub hr
          obtain ⟨us, e1, r⟩ := its_lst I ha
          obtain ⟨as, p, q⟩ := rp_all (fun hr h hv => ih k hr h hv) hs h1 (ats_of e1 r hv)
          exact ⟨a' :: as, up rfl p, RpJ.list (nj rfl p) ha q⟩
      | tup xs =>
        cases k with
        | zero => cases h
        | succ k =>
          obtain ⟨ts, h1, rfl⟩ := Option.map_eq_some_iff.mp (show (shwL (shw c m k) xs).map tupleText = some t from h)
          obtain ⟨a', vs, rfl, ha, hs⟩ := FRep.tup_z su.toSub hr
          obtain ⟨us, e1, r⟩ := its_tup I ha
          obtain ⟨as, p, q⟩ := rp_all (fun hr h hv => ih k hr h hv) hs h1 (ats_of e1 r hv)
          exact ⟨a' :: as, up rfl p, RpJ.tup (nj rfl p) ha q⟩
      | dk kvs =>
        cases k with
        | zero => cases h
        | succ k =>
          obtain ⟨ts, h1, rfl⟩ := Option.map_eq_some_iff.mp (show (shwK (shw c m k) kvs).map dictText = some t from h)
          obtain ⟨a2, vs2, rfl, hs2, h3⟩ := hr.node_of (k := .dk (kvs.map (·.1))) (ds := kvs.map (·.2)) rfl
          rcases h3 with ⟨o, h3, h4⟩ | h3
          · obtain ⟨gs, rfl, e1, rfl⟩ := oview_dk h4
            obtain ⟨us, e2, r⟩ := its_dk I (su.rd h3)
            obtain ⟨as, p, q⟩ := rp_kv (gs := gs) (fun hr h hv => ih k hr h hv) e1 hs2 h1 fun pr mp => ats_of e2 r hv pr.2 (List.mem_map_of_mem mp)
            exact ⟨a2 :: as, up rfl p, RpJ.dict (nj rfl p) h3 q⟩
          · exact h3.elim
      | _ => cases k <;> cases h
end
end Mi
namespace Mi
open PySem PySem.Spec PyProof.Rows L2 Rt
/-- the least depth -/
theorem AtM.least {h : Heap} {a : Addr} : ∀ {n : Nat}, AtM h n a → itsOf h a ≠ Option.none → ∃ j, j + 1 ≤ n ∧ AtM h (j + 1) a ∧ ¬ AtM h j a
  | 0, z, e => absurd z e
  | n + 1, z, e => by
    by_cases q : AtM h n a
    · obtain ⟨j, h1, h2, h3⟩ := AtM.least q e
      exact ⟨j, by omega, h2, h3⟩
    · exact ⟨n, Nat.le_refl _, z, q⟩
end Mi
namespace Mi
open PySem PySem.Spec PyProof.Rows L2 Rt
section
variable {K : PySem.W.Frag} {E : EW} {σ : L2.St}
end
section
variable {X : Cx} {E : EW} {e e1 e2 : Expr} {es : List Expr} {fe : FE} {fs : List FE} {pos : Pos}
inductive CJ (X : Cx) (E : EW) : List Expr → List FE → Prop where
  | nil : CJ X E [] []
  | cons {e : Expr} {f : FE} {es : List Expr} {fs : List FE} (h : PE X e (RE X.K E f)) (r : CJ X E es fs) : CJ X E (e :: es) (f :: fs)
end
section
variable {t : Tg} {acc y : Str} {f : FE} {r : List FE} {ss : List Sl} {g : Str → FE}
end
end Mi
namespace Mi
open PySem PySem.Spec PyProof.Rows L2 Rt
def rReprO (K : PySem.W.Frag) (c : Str) (m : Fm) : List V → Hp → VK → Prop := fun vs H Q => ∃ x d t Z, vs = [x] ∧ SubM K Z H ∧ FRep K Z x d ∧ shw c m 8 d = some t ∧ t.length ≤ sizeLine ∧ ∀ Z' H', Step Z H [] Z' H' [] → SubM K Z' H' → Q (.str t) H'
section
variable {prog : Program} {w : World} {A : Around} {E : Value → Shared → Prop} {s : Shared}
end
/-- repr(x), x an own instance -/
def TopR (X : Cx) (c : Str) (m : Fm) : Prop := ∀ {pins : List (Addr × Obj)} {σ : L2.St} {H Z : Hp} {s : Shared} {x : V} {u : Value} {fs : List (Str × D)} {t : Str} {as' : List Sl} {Q : VK}, L2.Inv X pins σ H s → SubM X.K Z H → FRep X.K Z x (.ins c fs) → m [.fz (.ins c fs)] = .ret (.fz (.str t)) as' → L2.RelV x u →
  (∀ (s' : Shared) (Z' H' : Hp) (tk : Tok), L2.Inv X pins σ H' s' → Step Z H [] Z' H' [] → SubM X.K Z' H' → EP X pins σ Q (.str t tk) s') → wpAny (model X.prog X.w) X.A (call (.builtin "repr") [u]) (EP X pins σ Q) X.xe s
theorem cr_reprG {X : Cx} {N : Nat} {c : Str} {m : Fm} (hG : X.A.guards = some []) (ow : Own X N c m) (top : TopR X c m) (hr : Room (N + 10) X.A) : CallR X (.builtin "repr") (rReprO X.K c m) := by
  intro pins s σ H vs us Q I r h
  obtain ⟨x, d, t, Z, rfl, su, fr, hw, hz, q⟩ := h
  obtain ⟨u, rfl, ru⟩ := vals1 r
  have hun := hr.un
  have hA : L2.Sub X (N + 8) X.A.in1 := ⟨(hr.mono (by omega) : Room (N + 9) X.A).in1, rfl⟩
  have hg1 : X.A.in1.guards = some [] := hG
  have hu1 : X.A.in1.units + 9 < cLine := by show X.A.units + 1 + 9 < cLine; omega
  have done : ∀ {s' : Shared} {Z' H' : Hp} {tk : Tok}, L2.Inv X pins σ H' s' → Step Z H [] Z' H' [] → SubM X.K Z' H' → EP X pins σ Q (.str t tk) s' := fun I' st' su' => ⟨.str t, _, I', ⟨_, rfl⟩, q _ _ st' su'⟩
  have leaf : ∀ {tk : Tok} {k : Nat}, EP X pins σ Q (.str t tk) { s with toks := k } := fun {tk k} => done (I.tok _) (Step.refl fun _ m => m) su
  have at_ := shw_at I su 8 fr hw
  cases d with
  | non =>
    obtain rfl : x = .non := by have l := fr.leaf_of (d := .non) rfl; cases l; rfl
    obtain rfl : "None" = t := Option.some.inj hw
    cases ru
    exact PySem.P.repr_of_none leaf
  | bl b =>
    obtain rfl : x = .bl b := by have l := fr.leaf_of (d := .bl b) rfl; cases l; rfl
    obtain rfl : ((if b then "True" else "False") : Str) = t := Option.some.inj hw
    cases ru
    exact PySem.P.repr_of_bool leaf
  | int i =>
    obtain rfl : x = .int i := by have l := fr.leaf_of (d := .int i) rfl; cases l; rfl
    obtain ⟨h1, rfl⟩ := shwI_some (i := i) (t := t) hw
    obtain ⟨tk, rfl⟩ := ru
    exact PySem.P.repr_of_int h1 leaf
  | str y =>
    obtain rfl : x = .str y := by have l := fr.leaf_of (d := .str y) rfl; cases l; rfl
    obtain ⟨h1, rfl⟩ := shwS_some (x := y) (t := t) hw
    obtain ⟨tk, rfl⟩ := ru
    exact PySem.P.repr_of_str leaf h1
  | ins c1 fs =>
    have hv : (if c1 = c then ownS m (.ins c1 fs) else none) = some t := hw
    split at hv
    · rename_i ec
      subst ec
      obtain ⟨as', em⟩ := ownS_some hv
      exact top I su fr em ru fun s' Z' H' tk I' st' su' => done I' st' su'
    · cases hv
  | lst xs =>
    obtain ⟨ts, h1, rfl⟩ := Option.map_eq_some_iff.mp (show (shwL (shw c m 7) xs).map listText = some t from hw)
    obtain ⟨a, vs, rfl, ha, hs⟩ := FRep.lst_of su.toSub fr
    cases (show u = Value.ref a from ru)
    have hTy := list_ty I ha
    refine call_repr_slot (by omega) hTy PySem.F.slot_list_repr.toG ?_
    cases vs with
    | nil =>
      cases hs
      obtain rfl : [] = ts := Option.some.inj h1
      rw [listText_nil] at leaf
      obtain ⟨z, its, na, r, e⟩ := I.hok a _ ha
      cases r
      exact call_list_repr_empty hTy e rfl ⟨_, _, rfl, leaf⟩
    | cons v vs =>
      obtain ⟨us, e1, r⟩ := its_lst I ha
      have key : ∃ j as, j ≤ 7 ∧ a ∉ as ∧ (∀ b ∈ as, True) ∧ RpAll X (N + j) Z H as j (v :: vs) ts := by
        obtain ⟨j, hj, h2, h3⟩ := AtM.least at_ (by rw [e1]; simp)
        obtain ⟨as, p, q⟩ := rp_all (fun hr h hv => rp_of I su ow j 7 hr h hv) hs h1 (ats_of e1 r h2)
        exact ⟨j, as, by omega, fun m => h3 (p a m), fun _ _ => trivial, q⟩
      obtain ⟨j, as, hj, hna, _, hT⟩ := key
      refine wpAny_call (codeAny_call_builtin PySem.F.slot_list_repr.plain PySem.F.entry_list_repr (PySem.F.slot_list_repr.check _ _ _ _ _ _ _ _ hTy (PySem.F.args_list_repr_1 _) ?_))
      exact list_reprAtJ (base := 0) (R := callEnd (fun v s' => ∃ x u, v = .str x u ∧ EP X pins σ Q v s') X.xe) (hA.mono (by omega)) hg1 (fun b _ => Clear.nil b) (by omega) hna (fun _ _ q => q) ha hT (by omega) I (Step.refl fun _ m => m) su fun s' Z2 H2 u I2 st2 su2 => ⟨_, _, rfl, done I2 st2 su2⟩
  | tup xs =>
    obtain ⟨ts, h1, rfl⟩ := Option.map_eq_some_iff.mp (show (shwL (shw c m 7) xs).map tupleText = some t from hw)
    obtain ⟨a, vs, rfl, ha, hs⟩ := FRep.tup_z su.toSub fr
    cases (show u = Value.ref a from ru)
    obtain ⟨us, e1, r⟩ := its_tup I ha
    obtain ⟨its, r', ⟨o, ho, hc, _⟩, z⟩ := I.tuple ha
    have hTy : s.TypeIs (.ref a) "tuple" := ⟨o, ho, hc⟩
    refine call_repr_slot (by omega) hTy PySem.F.slot_tuple_repr ?_
    obtain ⟨j, hj, h2, h3⟩ := AtM.least at_ (by rw [e1]; simp)
    obtain ⟨as, p, hT⟩ := rp_all (fun hr h hv => rp_of I su ow j 7 hr h hv) hs h1 (ats_of e1 r h2)
    refine wpAny_call (codeAny_call_builtin_own (Code.quiet_builtin _ (by decide +kernel)) PySem.F.entry_tuple_repr (PySem.F.slot_tuple_repr.check _ _ _ _ _ _ _ _ hTy (PySem.F.args_tuple_repr_1 _) ?_))
    exact tup_reprAtJ (base := 0) (R := callEnd (fun v s' => ∃ x u, v = .str x u ∧ EP X pins σ Q v s') X.xe) (isGuard_tuple_repr _) (units_under_tuple_repr _ _) (dp_tup _ _) (by rfl) (hA.mono (by omega)) hg1 (fun b _ => Clear.nil b) (by omega) (fun m => h3 (p a m)) (fun _ _ q => q) ha hT (by omega) I (Step.refl fun _ m => m) su fun s' Z2 H2 u I2 st2 su2 => ⟨_, _, rfl, done I2 st2 su2⟩
  | dk kvs =>
    obtain ⟨ts, h1, rfl⟩ := Option.map_eq_some_iff.mp (show (shwK (shw c m 7) kvs).map dictText = some t from hw)
    obtain ⟨a, vs2, rfl, hs2, h3⟩ := fr.node_of (k := .dk (kvs.map (·.1))) (ds := kvs.map (·.2)) rfl
    rcases h3 with ⟨o, h3, h4⟩ | h3
    · obtain ⟨gs, rfl, ek, rfl⟩ := oview_dk h4
      cases (show u = Value.ref a from ru)
      obtain ⟨us, e1, r⟩ := its_dk I (su.rd h3)
      obtain ⟨j, hj, h2, hn⟩ := AtM.least at_ (by rw [e1]; simp)
      obtain ⟨as, p, hT⟩ := rp_kv (gs := gs) (fun hr h hv => rp_of I su ow j 7 hr h hv) ek hs2 h1 fun pr mp => ats_of e1 r h2 pr.2 (List.mem_map_of_mem mp)
      obtain ⟨o, H2, I2, st2, su2, ha2⟩ := lock_in I su ⟨_, h3⟩ (su.rd h3)
      obtain ⟨_, hsys, va, ra, da⟩ := dk_rd I2.hok (.inr ⟨_, ha2⟩)
      have hTy := da.typeIs
      refine call_repr_slot (by omega) hTy PySem.F.slot_dict_repr ?_
      refine wpAny_call (codeAny_call_builtin_own (Code.quiet_builtin _ (by decide +kernel)) PySem.F.entry_dict_repr (PySem.F.slot_dict_repr.check _ _ _ _ _ _ _ _ hTy (PySem.F.args_dict_repr_1 _) ?_))
      exact dict_reprAtJ (base := 0) (R := callEnd (fun v s' => ∃ x u, v = .str x u ∧ EP X pins σ Q v s') X.xe) (isGuard_dict_repr _) (units_under_dict_repr _ _) (dp_dict _ _) (by rfl) (hA.mono (by omega)) hg1 (fun b _ => Clear.nil b) (by omega) (fun m => hn (p a m)) (fun _ _ q => q) (hT.later st2) (by omega) I2 ha2 (Step.refl fun _ m => m) su2 fun s' Z3 H3 u I3 st3 su3 => ⟨_, _, rfl, done I3 (st2.tr st3) su3⟩
    · exact h3.elim
  | fnv _ _ _ _ _ => simp [shw] at hw
  | _ => cases hw
/-- no own instance's text is meant -/
def noFm : Fm := fun _ => .stuck
theorem cr_reprN {X : Cx} {c : Str} (hG : X.A.guards = some []) (hr : Room 10 X.A) : CallR X (.builtin "repr") (rReprO X.K c noFm) :=
  cr_reprG (N := 0) hG ⟨fun _ em => (nomatch em)⟩ (fun _ _ _ em _ _ => (nomatch em)) hr
def opReprO (c : Str) (m : Fm) : List (Tg × D) → Option Sl
  | [(.fz, d)] => match opRepr [(.fz, d)] with
    | some r => some r
    | none => (shw c m 8 d).bind fun t => if t.length ≤ sizeLine then some (.fz (.str t)) else none
  | l => opRepr l
def rReprP (K : PySem.W.Frag) (c : Str) (m : Fm) : List V → Hp → VK → Prop := fun vs H Q => rReprD K vs H Q ∨ rReprO K c m vs H Q
theorem op_reprO_ok {K : PySem.W.Frag} {c : Str} {m : Fm} : OpN K (rReprP K c m) (opReprO c m) := by
  intro Z H vs xs res Q s hs h k
  unfold opReprO at h
  split at h
  · split at h
    · rename_i e; cases h; exact .inl (op_repr_ok s hs e k)
    · obtain ⟨t, e1, e2⟩ := Option.bind_eq_some_iff.mp h
      split at e2
      · rename_i hz
        cases e2
        cases hs with
        | cons h1 hs =>
          cases hs
          obtain ⟨f, h1, _⟩ := h1
          exact .inr ⟨_, _, t, Z, rfl, s, h1, e1, hz, fun Z' H' st su => k Z' H' _ [] ⟨st, su, ⟨_, rfl, .leaf (.str _), rfl⟩, by simp, fun a m => nomatch m⟩⟩
      · cases e2
  · exact .inl (op_repr_ok s hs h k)
theorem cr_reprP {X : Cx} {c : Str} {m : Fm} (h1 : CallR X (.builtin "repr") (rReprD X.K)) (h2 : CallR X (.builtin "repr") (rReprO X.K c m)) : CallR X (.builtin "repr") (rReprP X.K c m) := by
  intro pins s σ H vs us Q I r h
  rcases h with h | h
  · exact h1 pins s σ H vs us Q I r h
  · exact h2 pins s σ H vs us Q I r h
end Mi
namespace Mi
open PySem PySem.Spec PyProof.Rows L2 Rt PySem.Calls
open PySem.MeetsSeq
section
variable {prog : Program} {w : World} {A : Around} {E : Value → Shared → Prop} {s : Shared} {K : PySem.W.Frag} {x C f : Addr} {ox : Obj} {od : Option Obj}
end
end Mi
namespace Mi
open PySem PySem.Spec PyProof.Rows L2 Rt PySem.Calls
section
variable {prog : Program} {w : World} {A : Around} {E : Value → Shared → Prop} {s : Shared} {K : PySem.W.Frag} {x C f : Addr} {ox : Obj} {od : Option Obj} {b tb : Value}
end
end Mi
namespace Mi
open PySem PySem.Spec PyProof.Rows L2 Rt PySem.Calls
/-- what the written part says of an own class with __eq__ beside Python's own -/
structure EqC (K : PySem.W.Frag) (C f : Addr) : Prop where
  eq : PySem.W.findIn K (.ref C) "__eq__" = some (some (.ref f))
  fn : PySem.W.isFn K (.ref f) = true
  mro : PySem.W.mroIn K C (.type "object") = some true
  ne : PySem.W.findIn K (.ref C) "__ne__" = some (some (.builtin "object.__ne__"))
  sub : ∀ T ∈ ["NoneType", "bool", "int", "str", "tuple", "list", "dict"], PySem.W.subIn K (.ref C) (.type T) = some false ∧ PySem.W.subIn K (.type T) (.ref C) = some false
section
variable {X : Cx} {pins : List (Addr × Obj)} {σ : L2.St} {Z H : Hp} {s : Shared} {c : Str} {f : Addr}
end
section
variable {X : Cx} {pins : List (Addr × Obj)} {σ : L2.St} {Z H : Hp} {s : Shared} {c : Str} {f : Addr} {m : Fm} {E0 : XK} {n : Nat} {fd : FuncData} {ps : List Str} {CX : CXT}
end
end Mi
namespace Mi
open PySem PySem.Spec PyProof.Rows L2 Rt PySem.Calls
section
open PySem.SeqAt
open AutoSeq1 (wpAny_loadPart')
open MeetsSeq MeetsSeq2 MeetsSeq3 SeqRoads2
variable {prog : Program} {w : World} {A : Around} {R : Result → Shared → Prop}
end
section
variable {X : Cx} {pins : List (Addr × Obj)} {σ : L2.St} {Z H : Hp} {s : Shared} {c : Str} {f : Addr} {m : Fm} {E0 : XK} {n : Nat} {fd : FuncData} {ps : List Str} {CX : CXT}
end
end Mi
namespace Mi
open PySem PySem.Spec PyProof.Rows L2 Rt PySem.Calls
section
variable {X : Cx} {c : Str} {f : Addr} {m : Fm} {E0 : XK} {n : Nat} {fd : FuncData} {ps : List Str} {CX : CXT}
end
end Mi
namespace Mi
open PySem PySem.Spec PyProof.Rows L2 Rt
end Mi
namespace Mi
open PySem PySem.Spec PyProof.Rows L2 Rt
end Mi
namespace Mi
open PySem PySem.Spec PyProof.Rows L2 Rt
section
variable {X : Cx} {K : PySem.W.Frag}
end
end Mi
namespace Mi
open PySem PySem.Spec PyProof.Rows L2 Rt
section
variable {P : Program} {w : World} {K : PySem.W.Frag} {mg mb : Str → Option Value} {CX : CXT} {k : Nat} {fa a : Addr} {fd : FuncData} {x : Str} {sp : Sp} {s : Shared} {vs : List Value} {ns : List Int} {cs : List (Addr × Addr)}
/-- an empty table -/
abbrev tab0 : Obj := { cls := .none, data := .fields #[] }
/-- what stands in the heap of each code object and its table -/
structure TabHd (K : PySem.W.Frag) (h : Heap) (p : Addr × Addr) : Prop where
  tab : h.get? p.2 = some tab0
  out : K.lookup p.2 = none
  code : PySem.W.CodeHd h p.1 p.2
end
end Mi
namespace Mi
open PySem PySem.Spec PyProof.Rows L2 Rt
section
variable {P : Program} {w : World} {K : PySem.W.Frag} {mg mb : Str → Option Value} {CX : CXT} {k : Nat} {fa a : Addr} {fd : FuncData} {x : Str} {sp : Sp} {s : Shared} {vs : List Value} {ns : List Int} {cs : List (Addr × Addr)}
end
end Mi
namespace Mi
open PySem PySem.Spec PyProof.Rows L2 Rt
section
variable {K : PySem.W.Frag}
/-- where a thing stands first in a list of plain data -/
def opIndex (_ : Tg) (d : D) (xs : List (Tg × D)) : Option Sl := match d, xs with
  | .lst ds, [(_, x)] => (toPD x).bind fun p => (toPDs ds).bind fun ps => if (SeqAt.shaped p && SeqAt.shaped (.list ps)) = true then (ps.findIdx? fun z => PyData.eqv z p).map fun j => .fz (.int (j : Nat)) else none
  | _, _ => none
theorem op_index_ok : OpM K (rIndexD K) opIndex := by
  intro Z H t d v fp vs xs res Q s h1 hs h k
  unfold opIndex at h
  split at h
  · rename_i ds u x
    obtain ⟨p, e1, e2⟩ := Option.bind_eq_some_iff.mp h
    obtain ⟨ps, e3, e4⟩ := Option.bind_eq_some_iff.mp e2
    split at e4
    · rename_i hc
      rw [Bool.and_eq_true] at hc
      obtain ⟨j, e5, e6⟩ := Option.map_eq_some_iff.mp e4
      cases e6
      cases hs with
      | cons hx hn =>
        cases hn
        obtain ⟨fq, hx⟩ := hx
        have dl := dp_of (h1.rd s.toSub) (show toPD (.lst ds) = some (.list ps) by simp only [toPD, e3, Option.map_some])
        have dx := dp_of (hx.rd s.toSub) e1
        obtain ⟨a, ws, rfl, _, _⟩ := rep_lstR s h1
        obtain ⟨hj, e7, e8⟩ := List.findIdx?_eq_some_iff_getElem.mp e5
        refine ⟨a, _, p, ps, j, ps[j], rfl, rfl, dl, dx, hc.2, hc.1, List.getElem?_eq_getElem hj, e7, fun m z' hm hz => ?_, nl s k (.int _)⟩
        obtain ⟨hm', rfl⟩ := List.getElem?_eq_some_iff.mp hz
        exact Bool.eq_false_iff.mpr (e8 m hm)
    · cases e4
  · cases h
theorem e_index {t u : Tg} {ds : List D} {x : D} : opIndex t (.lst ds) [(u, x)] = (toPD x).bind fun p => (toPDs ds).bind fun ps => if (SeqAt.shaped p && SeqAt.shaped (.list ps)) = true then (ps.findIdx? fun z => PyData.eqv z p).map fun j => .fz (.int (j : Nat)) else none := rfl
end
end Mi
namespace Mi
open PySem PySem.Spec PyProof.Rows L2 Rt
section
variable {K : PySem.W.Frag}
end
end Mi
namespace Mi
open PySem PySem.Spec PyProof.Rows L2 Rt
theorem errO_ok {P : Program} {w : World} {H : Hp} {h : Heap} {a d : Addr} {cls : Value} {oe : Obj} {vs : Array Value} (e : h.get? a = some oe) (z : Zc cls (some d) oe) (dd : oe.data = .fields vs) : ObjOk P w H h a (ErrO a cls d) :=
  ⟨⟨oe, vs, e, z, dd⟩, ⟨oe, e⟩, fun _ _ ⟨o, v, q, r⟩ k => ⟨o, v, k o q, r⟩⟩
section
variable {X : Cx} {pins : List (Addr × Obj)} {σ : L2.St} {H : Hp} {s sI : Shared} {a d : Addr} {B : Heap} {cls : Value} {oe : Obj} {vs : Array Value}
/-- the context of a suite whose error is tracked -/
theorem inv_suiteT (J : Inv X pins σ H sI) (J4 : Inv X pins σ H s) (nI : sI.heap.get? a = none) (hex : X.ex = []) (ha : s.heap.get? a = some oe) (hz : Zc cls (some d) oe) (hd : oe.data = .fields vs) (na : H a = none) :
    Inv (X.suite a (X.pn ++ pins)) [] σ (upd H a (ErrO a cls d)) s := by
  have ne : ∀ {b : Addr} {o : Obj}, sI.heap.get? b = some o → b ≠ a := fun e z => by rw [z, nI] at e; cases e
  have nH : ∀ {b : Addr} {o : HO}, H b = some o → b ≠ a := fun e => ne_of_none e na
  have n0 : ∀ {b : Addr} {o : Obj}, X.s_0.heap.get? b = some o → b ≠ a := fun {b o} e => by
    obtain ⟨o', q⟩ := J.base.there b o e (by rw [hex]; exact fun z => nomatch z)
    exact ne q
  refine ⟨J4.ok.suite _ _, J4.os, J4.bare, ⟨J4.base.keep, J4.base.slot, fun b o e n hx => ?_, J4.base.there, fun b xs e => ?_, fun b o u e => ?_, fun b ps e => ?_⟩, J4.loc, J4.cell, ?_, fun x c e => ?_, fun p hp => ?_, HOk.laidN J4.hok (fun _ _ z => z) na (errO_ok ha hz hd), J4.len⟩
  · rw [upd_ne (n0 e)]; exact J4.base.free b o e n hx
  · have q := J4.base.tups b xs e
    rw [upd_ne (nH q)]; exact q
  · have q := J4.base.frzs b o u e
    rw [upd_ne (nH q)]; exact q
  · obtain ⟨more, q⟩ := J4.base.tbls b ps e
    exact ⟨more, by rw [upd_ne (nH q)]; exact q⟩
  · obtain ⟨m, ⟨o, es, ep, e, _⟩, _⟩ := J.loc
    rw [upd_ne (ne e)]; exact J4.free
  · obtain ⟨v, o, eo, _⟩ := J.cell x c e
    rw [upd_ne (ne eo)]; exact J4.freeC x c e
  · have hp' : p ∈ X.pn ++ pins := by rw [List.append_nil] at hp; exact hp
    obtain ⟨e1, _⟩ := J.pin p hp'
    obtain ⟨e, n, n1, n2, n3⟩ := J4.pin p hp'
    exact ⟨e, by rw [upd_ne (ne e1)]; exact n, n1, n2, n3⟩
theorem inv_unsuiteT {pn' : List (Addr × Obj)} (I : Inv (X.suite a (X.pn ++ pins)) pn' σ H s) (ok : X.Ok) : Inv X pins σ H s :=
  ⟨ok, I.os, I.bare, I.base, I.loc, I.cell, I.free, I.freeC, fun p hp => I.pin p (List.mem_append_left _ hp), I.hok, I.len⟩
end
/-- the test t asks for the classes cs -/
def TestX (X : Cx) (t : Expr) (cs : List Value) : Prop := ∀ (a : Addr) (pn : List (Addr × Obj)) (σ : L2.St) (H : Hp) (s : Shared) (cls : Value) (b : Bool) (Q : Bool → Shared → Prop) (E : Value → Shared → Prop), Inv (X.suite a pn) [] σ H s →
  PySem.W.Looks (model X.prog X.w) s.heap (typeOf (.ref a)) cls → PySem.W.exmAny X.K cls cs = some b → (∀ h', (∀ q o, s.heap.get? q = some o → h'.get? q = some o) → Q b { s with heap := h' }) →
  wpAny (model X.prog X.w) (X.A.mark (some (.ref a))) (eval t X.env) (fun c s₁ => wpAny (model X.prog X.w) (X.A.mark (some (.ref a))) (excMatches (.ref a) c) Q E s₁) E s
section
variable {M : Model} {A : Around} {E : Value → Shared → Prop} {s : Shared} {α β : Type}
end
section
variable {M : Model} {K : PySem.W.Frag}
end
section
variable {X : Cx}
theorem names_run {x : Str} {c : Value} {np : Pos} {a : Addr} {pn : List (Addr × Obj)} {σ : L2.St} {H : Hp} {s : Shared} {Q : Value → Shared → Prop} {E : Value → Shared → Prop} (hc : Names X x c) (I : Inv (X.suite a pn) [] σ H s) (q : Q c s) : wpAny (model X.prog X.w) (X.A.mark (some (.ref a))) (eval (.Name x np) X.env) Q E s := by
  obtain ⟨hg, hdbg, hm | ⟨hm, hv, hnn⟩⟩ := hc
  · exact ld_glob (X := X.suite a pn) I hg hm q hdbg
  · exact ld_blt (X := X.suite a pn) I hg hm hv q hnn hdbg
theorem test_one {x : Str} {c : Value} {np : Pos} (hc : Names X x c) : TestX X (.Name x np) [c] := fun a pn σ H s cls b Q E I LT hx q => by
  obtain ⟨b1, d1, h1, h2, rfl⟩ := PySem.W.exmAny_cons hx
  cases h2
  refine names_run hc I ((PySem.W.exm_one I.kIn LT h1).here ?_)
  rw [Bool.or_false] at q
  exact q s.heap fun _ _ z => z
inductive NamesL (X : Cx) : List Expr → List Value → Prop
  | nil : NamesL X [] []
  | cons {x : Str} {c : Value} {np : Pos} {es : List Expr} {cs : List Value} (h : Names X x c) (r : NamesL X es cs) : NamesL X (.Name x np :: es) (c :: cs)
end
/-- behind a suite: its name goes -/
def wipeD (o : Option Nat) (D : Ends) : Ends := match o with
  | none => D
  | some i => { nx := fun σ' H' => D.nx (σ'.set i none) H', rt := D.rt, bk := fun σ' H' => D.bk (σ'.set i none) H', ct := fun σ' H' => D.ct (σ'.set i none) H' }
def nameS (o : Option Nat) (a : Addr) (σ : L2.St) : L2.St := match o with
  | none => σ
  | some i => σ.set i (some (.ref a))
/-- what the clauses wish of an exception of the body, one after the other; ts: of the error, its class, its dict -/
def wTrk (K : PySem.W.Frag) (Wout : WX) (D : Ends) : List (List Value × Option Nat × (Addr → Value → Addr → TS)) → WX
  | [] => Wout
  | (cs, o, ts) :: r => fun cls d σ H => ∃ b, PySem.W.exmAny K cls cs = some b ∧ (b = true → ∃ dd, d = some dd ∧ ∀ a, H a = none → ts a cls dd (wipeD o D) (nameS o a σ) (upd H a (ErrO a cls dd))) ∧ (b = false → wTrk K Wout D r cls d σ H)
inductive HdsT (X : Cx) : List ExceptHandler → List (List Value × Option Nat × (Addr → Value → Addr → TS)) → Prop
  | nil : HdsT X [] []
  | only {t : Expr} {cs : List Value} {ts : Addr → Value → Addr → TS} {b₀ : Stmt} {suite : List Stmt} {pos' : Pos} {hds : List ExceptHandler} {l : List (List Value × Option Nat × (Addr → Value → Addr → TS))} (hc : TestX X t cs)
      (hsu : ∀ (a : Addr) (cls : Value) (dd : Addr) (pn : List (Addr × Obj)), PSs (X.suite a pn) (b₀ :: suite) (ts a cls dd)) (r : HdsT X hds l) : HdsT X (.ExceptHandler (some t) none (b₀ :: suite) pos' :: hds) ((cs, none, ts) :: l)
  | named {t : Expr} {cs : List Value} {n : Str} {i : Nat} {ts : Addr → Value → Addr → TS} {b₀ : Stmt} {suite : List Stmt} {pos' : Pos} {hds : List ExceptHandler} {l : List (List Value × Option Nat × (Addr → Value → Addr → TS))} (hc : TestX X t cs)
      (hi : X.N[i]? = some n) (hln : X.env.kindOf n = some .local) (hsu : ∀ (a : Addr) (cls : Value) (dd : Addr) (pn : List (Addr × Obj)), PSs (X.suite a pn) (b₀ :: suite) (ts a cls dd)) (r : HdsT X hds l) : HdsT X (.ExceptHandler (some t) (some n) (b₀ :: suite) pos' :: hds) ((cs, some i, ts) :: l)
/-- an error a that came out of a try's body and lies in the heap hp: what was known without it is known still -/
structure Lies (X : Cx) (pins : List (Addr × Obj)) (σ : L2.St) (H : Hp) (a : Addr) (cls : Value) (d : Option Addr) (s : Shared) (B : Heap) (sI : Shared) (hp : Heap) : Prop where
  inv : Inv X pins σ H sI
  ground : ∀ b o, sI.heap.get? b = some o → b ∉ frs X.stack → B.get? b = some o
  upto : sI.heap.UpToSlots hp
  fly : HandSPX.FlyingZ B (X.env :: X.outer) a (Zc cls d) hp
  none_ : H a = none
  os_ : s.os = sI.os
  gens_ : AllBare s.gens
section
variable {X : Cx} {pins : List (Addr × Obj)} {σ : L2.St} {H : Hp} {a : Addr} {cls : Value} {d : Option Addr} {s sI : Shared} {B hp hq : Heap} {D : Ends} {Wout : WX} {l : List (List Value × Option Nat × (Addr → Value → Addr → TS))}
theorem Lies.more (L : Lies X pins σ H a cls d s B sI hp) (u : hp.UpToSlots hq) (f : HandSPX.FlyingZ B (X.env :: X.outer) a (Zc cls d) hq) : Lies X pins σ H a cls d s B sI hq :=
  { L with upto := L.upto.trans u, fly := f }
theorem Lies.kept (L : Lies X pins σ H a cls d s B sI hp) (k : ∀ b o, hp.get? b = some o → hq.get? b = some o) : Lies X pins σ H a cls d s B sI hq := by
  refine L.more (Heap.UpToSlots.of_keeps k) ?_
  obtain ⟨st, no, ff, oe, vs, T, oT, ts, e1, e2, e3, e4, e5, e6, e7, e8, e9⟩ := L.fly
  exact ⟨fun b o q => k b o (st b o q), no, ff.of_keeps fun b o q _ => ⟨o, k b o q, rfl⟩, oe, vs, T, oT, ts, k _ _ e1, e2, e3, e4, e5, e6, k _ _ e7, e8, e9⟩
theorem Lies.state (L : Lies X pins σ H a cls d s B sI hp) : Inv X pins σ H { s with heap := hp } := L.inv.landed L.ground L.fly.1 L.upto L.os_ L.gens_
/-- no frame stands where it lies -/
theorem Lies.off (L : Lies X pins σ H a cls d s B sI hp) : a ∉ frs (X.env :: X.outer) := fun hm => by
  obtain ⟨oe, vs, e, _, dd⟩ := L.fly.there
  obtain ⟨_, u, e', nf⟩ := L.fly.2.2.1.mem hm
  rw [e] at e'
  cases e'
  exact nf _ dd
theorem Lies.new (L : Lies X pins σ H a cls d s B sI hp) (hs : X.stack = X.env :: X.outer) : sI.heap.get? a = none := by
  cases q : sI.heap.get? a with
  | none => rfl
  | some u => exact (nomatch (L.ground a u q (hs ▸ L.off)).symm.trans L.fly.2.1)
/-- no clause asks for it -/
theorem Lies.out (L : Lies X pins σ H a cls d s B sI hp) (hs : X.stack = X.env :: X.outer) (hf : X.env.frame = some X.env.locals) (tk : Takes X Wout) (w : Wout cls d σ H) : wpAny (model X.prog X.w) X.A (handleBy (.ref a) X.env []) (L2.SP X pins D) X.xe { s with heap := hp } := by
  refine wpAny_handleBy_nil ?_
  unfold PySem.passOn
  have thrown : wpAny (model X.prog X.w) X.A (setFlight (.ref a) X.env.frame) (fun _ s4 => wpAny (model X.prog X.w) X.A (throw (.ref a) : Sem Flow) (L2.SP X pins D) X.xe s4) X.xe { s with heap := hp } := by
    rw [hf]
    exact HandSPX.setFlight_upZ L.fly fun h4 f4 u4 => wpAny_throw (tk _ _ ⟨a, B, sI, pins, σ, H, cls, d, rfl, L.inv, L.ground, L.upto.trans u4, .inr (.inr (hs ▸ f4)), L.none_, L.os_, L.gens_, w⟩)
  obtain ⟨_, _, _, oe, vs, T, oT, ts, e1, e2, e3, e4, _⟩ := L.fly
  refine wpAny_bind (wpAny_field e1 e3 e4 ?_)
  rw [if_neg (by simp)]
  first
    | exact wpAny_bind (wpAny_pure (wpAny_bind thrown))
    | exact wpAny_bind thrown
/-- a clause's test -/
theorem Lies.test (L : Lies X pins σ H a cls d s B sI hp) (hf : X.env.frame = some X.env.locals) {t : Expr} {cs : List Value} {b : Bool} (hc : TestX X t cs) (hb : PySem.W.exmAny X.K cls cs = some b) {Q : Bool → Shared → Prop} {E : Value → Shared → Prop} (q : ∀ hq, Lies X pins σ H a cls d s B sI hq → Q b { s with heap := hq }) :
    wpAny (model X.prog X.w) (X.A.mark (some (.ref a))) (eval t X.env) (fun c s₁ => wpAny (model X.prog X.w) (X.A.mark (some (.ref a))) (excMatches (.ref a) c) Q E s₁) E { s with heap := hp } := by
  obtain ⟨oe, vs, e, z, dd⟩ := L.fly.there
  have away : ∀ v ∈ X.env :: X.outer, v.frame = some a → False := fun v mv q => L.off (List.mem_filterMap.mpr ⟨v, mv, q⟩)
  have S := L.state.suite e dd L.none_ (fun q => away X.env List.mem_cons_self (by rw [hf, q])) fun m => by
    obtain ⟨v, mv, q⟩ := List.mem_filterMap.mp m
    exact away v (List.mem_cons_of_mem _ mv) q
  exact hc a _ σ H _ cls b Q E S (fun A Q E s k q => wpAny_typeOf_ref (k _ _ e) (by rw [z.1]; exact q)) hb fun h' k => q h' (L.kept k)
theorem Lies.suite (L : Lies X pins σ H a cls (some dd) s B sI hp) (hs : X.stack = X.env :: X.outer) (hex : X.ex = []) : Inv (X.suite a (X.pn ++ pins)) [] σ (upd H a (ErrO a cls dd)) { s with heap := hp } := by
  obtain ⟨oe, vs, e, z, q⟩ := L.fly.there
  exact inv_suiteT L.inv L.state (L.new hs) hex e z q L.none_
/-- the clauses, one after the other -/
theorem Lies.go (hs : X.stack = X.env :: X.outer) (hf : X.env.frame = some X.env.locals) (hN : X.N.Nodup) (hex : X.ex = []) (ok : X.Ok) (tk : Takes X Wout) {hds : List ExceptHandler} (hh : HdsT X hds l) :
    ∀ {hp : Heap}, Lies X pins σ H a cls d s B sI hp → wTrk X.K Wout D l cls d σ H → wpAny (model X.prog X.w) X.A (handleBy (.ref a) X.env hds) (L2.SP X pins D) X.xe { s with heap := hp } := by
  induction hh with
  | nil => exact fun L w => L.out hs hf tk w
  | only hc hsu r ih =>
    intro hp L w
    obtain ⟨b, hb, yes, no⟩ := w
    refine wpAny_handleBy_cons (codeAny_handlers_test (L.test hf hc hb fun h5 L5 => ?_)) (by intro q; cases q)
    cases b with
    | false => exact ih L5 (no rfl)
    | true =>
      obtain ⟨dd, ed, w⟩ := yes rfl
      subst ed
      refine codeAny_handlers_suite (HandSPX.lands_againZ L5.fly fun h6 f6 u6 => ?_)
      have L6 := L5.more u6 f6
      refine wpAny_mono ((hsu a cls dd (X.pn ++ pins)).run [] _ _ _ _ (L6.suite hs hex) (w a L.none_)) (fun fl s6 e6 => ?_) (fun _ _ z => z.elim)
      cases fl with
      | ret u => obtain ⟨v, σ6, H6, S, r6, q⟩ := e6; exact ⟨v, σ6, H6, inv_unsuiteT S ok, r6, q⟩
      | next => obtain ⟨σ6, H6, S, q⟩ := e6; exact ⟨σ6, H6, inv_unsuiteT S ok, q⟩
      | brk => obtain ⟨σ6, H6, S, q⟩ := e6; exact ⟨σ6, H6, inv_unsuiteT S ok, q⟩
      | cont => obtain ⟨σ6, H6, S, q⟩ := e6; exact ⟨σ6, H6, inv_unsuiteT S ok, q⟩
  | named hc hi hln hsu r ih =>
    intro hp L w
    obtain ⟨b, hb, yes, no⟩ := w
    refine wpAny_handleBy_cons (codeAny_handlers_test (L.test hf hc hb fun h5 L5 => ?_)) (by intro q; cases q)
    cases b with
    | false => exact ih L5 (no rfl)
    | true =>
      obtain ⟨dd, ed, w⟩ := yes rfl
      subst ed
      refine codeAny_handlers_suite_as (HandSPX.lands_againZ L5.fly fun h6 f6 u6 => ?_)
      have L6 := L5.more u6 f6
      refine store_ok (X := X.suite a (X.pn ++ pins)) (v := .ref a) (L6.suite hs hex) hN hi (.inl hln) rfl (fun s5 S5 => ?_) (.inr hln)
      refine wpAny_mono ((hsu a cls dd (X.pn ++ pins)).run [] s5 _ _ _ S5 (w a L.none_)) (fun fl s6 e6 => ?_) (fun _ _ z => z.elim)
      cases fl with
      | ret u => obtain ⟨v, σ6, H6, S, r6, q⟩ := e6; exact gone_ok (inv_unsuiteT S ok) hN hi hln fun s7 J => ⟨v, _, H6, J, r6, q⟩
      | next => obtain ⟨σ6, H6, S, q⟩ := e6; exact gone_ok (inv_unsuiteT S ok) hN hi hln fun s7 J => ⟨_, H6, J, q⟩
      | brk => obtain ⟨σ6, H6, S, q⟩ := e6; exact gone_ok (inv_unsuiteT S ok) hN hi hln fun s7 J => ⟨_, H6, J, q⟩
      | cont => obtain ⟨σ6, H6, S, q⟩ := e6; exact gone_ok (inv_unsuiteT S ok) hN hi hln fun s7 J => ⟨_, H6, J, q⟩
end
section
variable {X : Cx} {body : List Stmt} {h₀ : ExceptHandler} {hds : List ExceptHandler} {l : List (List Value × Option Nat × (Addr → Value → Addr → TS))} {pos : Pos} {tb : WX → TS} {Wout : WX}
/-- noted, on the ground, then the clauses -/
def clausesX (X : Cx) (hds : List ExceptHandler) (Q : Flow → Shared → Prop) (e : Value) (s₁ : Shared) : Prop :=
  wpAny (model X.prog X.w) X.A (noteFrame e X.env) (fun _ s₂ => wpAny (model X.prog X.w) X.A (setFlight e none) (fun _ s₃ => wpAny (model X.prog X.w) X.A (handleBy e X.env hds) Q X.xe s₃) X.xe s₂) X.xe s₁
theorem ps_try_trk (hs : X.stack = X.env :: X.outer) (hf : X.env.frame = some X.env.locals) (hN : X.N.Nodup) (hex : X.ex = []) (tk : Takes X Wout)
    (hb : ∀ (W : WX) (pn : List (Addr × Obj)) (xe : Value → Shared → Prop), Takes (X.tr pn xe) W → PassesOwn (model X.prog X.w) X.A X.env xe → PSs (X.tr pn xe) body (tb W))
    (hh : HdsT X (h₀ :: hds) l) : PS X (.Try body (h₀ :: hds) [] [] pos) (fun D σ H => tb (wTrk X.K Wout D l) D σ H) := by
  refine ⟨fun pins s σ H D I h => ?_⟩
  have ok := I.ok
  refine wpAny_Try_except ?_
  have run := (hb (wTrk X.K Wout D l) (X.pn ++ pins) (clausesX X (h₀ :: hds) (L2.SP X pins D)) ?caught PassesOwn.looking).run [] s σ H D (I.toTry _) h
  · refine wpAny_mono run (fun f s1 z => ?_) fun e s1 he => he
    cases f with
    | ret v => obtain ⟨v, σ', H', J, r, q⟩ := z; exact ⟨v, σ', H', J.ofTry ok, r, q⟩
    | next => obtain ⟨σ', H', J, q⟩ := z; exact wpAny_execs_nil ⟨σ', H', J.ofTry ok, q⟩
    | brk => obtain ⟨σ', H', J, q⟩ := z; exact ⟨σ', H', J.ofTry ok, q⟩
    | cont => obtain ⟨σ', H', J, q⟩ := z; exact ⟨σ', H', J.ofTry ok, q⟩
  case caught =>
    intro u s' xx
    obtain ⟨a, B, sI, pins', σ', H', cls, d, rfl, J, g, u, sky, na, os, ag, w⟩ := xx
    unfold clausesX
    refine Sky.land Zc.steady (by rw [ok.frames, hs]) hf (hs ▸ sky) fun h3 f3 u3 => ?_
    exact Lies.go hs hf hN hex ok tk hh ⟨J.ofTry ok, g, u.trans u3, f3, na, os, ag⟩ w
end
end Mi
namespace Mi
open PySem PySem.Spec PyProof.Rows L2 Rt
/-- own errors, with what of Python's own stands above each -/
def xok (T : XT) (c : Str) : Bool := T.any fun p => decide (p.1 = c)
def isX1 (T : XT) (c : Str) : D → Option Bool
  | .obj e => if (xok T c && xok T e) = true then some (decide (c = e)) else none
  | .ty n => if (xok T c && xnames.contains n) = true then some ((xabove T c).contains n) else none
  | _ => none
def isXs (T : XT) (c : Str) : List D → Option Bool
  | [] => some false
  | d :: r => (isX1 T c d).bind fun b => (isXs T c r).bind fun b' => some (b || b')
def xval (K : PySem.W.Frag) : D → Value
  | .obj e => .ref (He.ga K e)
  | .ty n => .type n
  | _ => .none
structure XmT (K : PySem.W.Frag) (T : XT) : Prop where
  oo : ∀ p ∈ T, ∀ q ∈ T, PySem.W.exmOne K (.ref (He.ga K p.1)) (.ref (He.ga K q.1)) = some (decide (p.1 = q.1))
  ob : ∀ p ∈ T, ∀ n ∈ xnames, PySem.W.exmOne K (.ref (He.ga K p.1)) (.type n) = some ((xabove T p.1).contains n)
theorem xmT_of {K : PySem.W.Frag} {T : XT} (h : xmTB K T = true) : XmT K T := by
  unfold xmTB at h
  rw [List.all_eq_true] at h
  refine ⟨fun p hp q hq => ?_, fun p hp n hn => ?_⟩
  · have := h p hp
    rw [Bool.and_eq_true] at this
    exact of_decide_eq_true (List.all_eq_true.mp this.1 q hq)
  · have := h p hp
    rw [Bool.and_eq_true] at this
    exact of_decide_eq_true (List.all_eq_true.mp this.2 n hn)
theorem xok_mem {T : XT} {c : Str} (h : xok T c = true) : ∃ p ∈ T, p.1 = c := by
  unfold xok at h
  obtain ⟨p, hp, e⟩ := List.any_eq_true.mp h
  exact ⟨p, hp, of_decide_eq_true e⟩
section
variable {K : PySem.W.Frag} {T : XT} {c : Str}
theorem isX1_of (x : XmT K T) {d : D} {b : Bool} (h : isX1 T c d = some b) : PySem.W.exmOne K (.ref (He.ga K c)) (xval K d) = some b := by
  unfold isX1 at h
  split at h
  · split at h
    · rename_i hc
      cases h
      rw [Bool.and_eq_true] at hc
      obtain ⟨p, hp, rfl⟩ := xok_mem hc.1
      obtain ⟨q, hq, rfl⟩ := xok_mem hc.2
      exact x.oo p hp q hq
    · cases h
  · split at h
    · rename_i hc
      cases h
      rw [Bool.and_eq_true] at hc
      obtain ⟨p, hp, rfl⟩ := xok_mem hc.1
      exact x.ob p hp _ (by simpa using hc.2)
    · cases h
  · cases h
theorem isXs_of (x : XmT K T) : ∀ {ds : List D} {b : Bool}, isXs T c ds = some b → PySem.W.exmAny K (.ref (He.ga K c)) (ds.map (xval K)) = some b
  | [], b, h => by cases h; rfl
  | d :: r, b, h => by
    obtain ⟨b1, h1, h2⟩ := Option.bind_eq_some_iff.mp h
    obtain ⟨b2, h3, h4⟩ := Option.bind_eq_some_iff.mp h2
    cases h4
    rw [List.map_cons]
    unfold PySem.W.exmAny
    rw [isX1_of x h1, isXs_of x h3]
end
/-- a clause: its classes, its name, its suite -/
structure Cl where
  ds : List D
  nm : Option Nat
  f : FS
def So.wipeC (o : Option Nat) (r : So) : So := match o, r with
  | none, .exc _ _ _ => .stuck
  | none, r => r
  | some i, .nx ss => if i < ss.length then .nx (setS i .un ss) else .stuck
  | some i, .bk ss => if i < ss.length then .bk (setS i .un ss) else .stuck
  | some i, .ct ss => if i < ss.length then .ct (setS i .un ss) else .stuck
  | some _, .rt r ss => .rt r ss
  | some _, _ => .stuck
def nameC (o : Option Nat) (d : D) (ss : List Sl) : Option (List Sl) := match o with
  | none => some ss
  | some i => if i < ss.length then some (setS i (.fz d) ss) else none
def runC (k : Cl) (d : D) (ss : List Sl) : So := match nameC k.nm d ss with
  | some s1 => (k.f s1).wipeC k.nm
  | none => .stuck
def pickC (T : XT) (c : Str) (fs : List (Str × D)) (ss : List Sl) : List Cl → So
  | [] => .exc c fs ss
  | k :: r => match isXs T c k.ds with
    | some true => runC k (.err c fs) ss
    | some false => pickC T c fs ss r
    | none => .stuck
def ktryC (T : XT) (l : List Cl) (o : So) : So := match o with
  | .exc c fs ss => pickC T c fs ss l
  | o => o
/-- try: f / except ..: .. -/
def fTryC (T : XT) (f : FS) (l : List Cl) : FS := fun ss => ktryC T l (f ss)
section
variable {K : PySem.W.Frag} {E : EW} {kp : List Nat} {σ : L2.St} {Z H : Hp} {De : Ends} {es ts : List Ent} {T : XT} {l : List Cl} {c : Str} {f : FS} {fs : List (Str × D)}
def clT (K : PySem.W.Frag) (kp : List Nat) (k : Cl) : List Value × Option Nat × (Addr → Value → Addr → TS) := (k.ds.map (xval K), k.nm, fun _ _ _ => RS K EN kp k.f)
theorem sk_wipeC {σ0 : L2.St} {Z0 H0 : Hp} {F0 : List Addr} {o : So} {n : Option Nat} (hk : ∀ i, n = some i → i ∉ kp) (st : Step Z0 H0 F0 Z H (fpsOf es)) (hv : vsOf es = σ) (kd : Kept kp σ0 σ) (k : SK K E kp σ0 Z0 H0 F0 (o.wipeC n) De) :
    SK K EN kp σ Z H (fpsOf es) o (wipeD n De) := by
  cases n with
  | none =>
    cases o with
    | nx ss => exact SK.from st kd k
    | bk ss => exact SK.from st kd k
    | ct ss => exact SK.from st kd k
    | rt r ss => exact SK.from (E := EN) st kd (show SK K EN kp σ0 Z0 H0 F0 (.rt r ss) De from k)
    | exc c fs ss => exact k.elim
    | stuck => exact k.elim
  | some i =>
    have hk := hk i rfl
    have go : ∀ {R : L2.St → Hp → Prop} {ss : List Sl}, i < ss.length → (∀ Z' H' es', Step Z0 H0 F0 Z' H' (fpsOf es') → Sat K Z' H' es' [] → Kept kp σ0 (vsOf es') → ssOf es' = setS i .un ss → R (vsOf es') H') →
        ∀ Z' H' es', Step Z H (fpsOf es) Z' H' (fpsOf es') → Sat K Z' H' es' [] → Kept kp σ (vsOf es') → ssOf es' = ss → R ((vsOf es').set i none) H' := by
      intro R ss hl kk Z' H' es' st' s' kd' e
      obtain ⟨es2, s2, f2, v2, e2⟩ := s'.name (i := i) (by rw [← e] at hl; simpa using hl) none
      have := kk Z' H' es2 ((st.tr st').less f2) s2 (by rw [v2]; exact (kd.tr kd').tr (kept_set hk)) (by rw [e2, e])
      rw [v2] at this
      exact this
    have un : ∀ {ss : List Sl} {o' : So}, SK K E kp σ0 Z0 H0 F0 (if i < ss.length then o' else .stuck) De → i < ss.length ∧ SK K E kp σ0 Z0 H0 F0 o' De := fun {ss o'} z => by
      by_cases hl : i < ss.length
      · rw [if_pos hl] at z; exact ⟨hl, z⟩
      · rw [if_neg hl] at z; exact z.elim
    cases o with
    | nx ss => obtain ⟨hl, k⟩ := un k; exact go hl k
    | bk ss => obtain ⟨hl, k⟩ := un k; exact go hl k
    | ct ss => obtain ⟨hl, k⟩ := un k; exact go hl k
    | rt r ss => exact fun Z' H' es' v fv st' s' kd' e => k Z' H' es' v fv (st.tr st') s' (kd.tr kd') e
    | exc c fs ss => exact k.elim
    | stuck => exact k.elim
theorem pick_wish (x : XmT K T) {σ0 : L2.St} {Z0 H0 Z' H' : Hp} {F0 : List Addr} {es' : List Ent} {d : Addr} (st : Step Z0 H0 F0 Z' H' (fpsOf es')) (s' : Sat K Z' H' es' []) (kd : Kept kp σ0 (vsOf es')) (ed : ExcD K Z' H' d fs) :
    ∀ {l : List Cl}, (∀ k ∈ l, ∀ i, k.nm = some i → i ∉ kp) → SK K E kp σ0 Z0 H0 F0 (pickC T c fs (ssOf es') l) De → wTrk K (fun cls d σ H => E σ cls d H) De (l.map (clT K kp)) (.ref (He.ga K c)) (some d) (vsOf es') H'
  | [], _, k => k Z' H' es' d st s' kd rfl ed
  | m :: r, hk, k => by
    unfold pickC at k
    cases hb : isXs T c m.ds with
    | none => rw [hb] at k; exact k.elim
    | some b =>
      rw [hb] at k
      refine ⟨b, isXs_of x hb, fun e => ?_, fun e => ?_⟩
      · subst e
        dsimp only at k
        refine ⟨d, rfl, fun a na => ?_⟩
        obtain ⟨s2, st2⟩ := s'.laid (o := ErrO a (.ref (He.ga K c)) d) na (fun z => z)
        obtain ⟨vs, hd, hn, hr⟩ := ed
        have nd : d ≠ a := fun z => by subst z; have := s'.sub.toSub.xd hd; rw [na] at this; cases this
        have fr : FRep K (upd Z' a (ErrO a (.ref (He.ga K c)) d)) (.ref a) (.err c fs) := .wr (k := .err (He.ga K c) (fs.map (·.1))) (vs := vs.map (·.2)) (ds := fs.map (·.2)) ⟨d, vs, upd_same, by rw [upd_ne nd]; exact hd, hn, rfl⟩ rfl (FReps.mono st2.z hr)
        have st3 : Step Z0 H0 F0 (upd Z' a (ErrO a (.ref (He.ga K c)) d)) (upd H' a (ErrO a (.ref (He.ga K c)) d)) (fpsOf es') := by
          rw [List.append_nil] at st2
          exact st.tr st2
        unfold runC nameC at k
        cases hm : m.nm with
        | none =>
          rw [hm] at k
          refine ⟨_, es', s2, rfl, sk_wipeC (n := none) (fun i z => by cases z) st3 rfl kd k⟩
        | some i =>
          rw [hm] at k
          dsimp only at k
          by_cases hi : i < (ssOf es').length
          · rw [if_pos hi] at k
            dsimp only at k
            have s4 : Sat K _ _ es' ([] ++ [⟨some (.ref a), .fz (.err c fs), []⟩]) := (s2.new (New.fz s2.sub fr)).1
            obtain ⟨es2, s5, g1, g2, g3⟩ := Sat.assign (ts := []) s4 (by simpa using hi) (by simp)
            have hki := hk m List.mem_cons_self i hm
            refine ⟨_, es2, s5, g2, ?_⟩
            rw [← g3] at k
            refine sk_wipeC (n := some i) (fun j z => by cases z; exact hki) (st3.less fun b mb => ?_) g2 ?_ k
            · have := g1 b (by rw [List.append_nil]; exact mb)
              simpa [fpsOf] using this
            · show Kept kp σ0 ((vsOf es').set i _)
              exact kd.tr (kept_set hki)
          · rw [if_neg hi] at k; exact k.elim
      · subst e
        exact pick_wish x st s' kd ed (fun q mq => hk q (List.mem_cons_of_mem _ mq)) k
theorem rs_tryC (x : XmT K T) (hk : ∀ k ∈ l, ∀ i, k.nm = some i → i ∉ kp) (h : RS K E kp (fTryC T f l) De σ H) :
    RS K (WE (wTrk K (fun cls d σ H => E σ cls d H) De (l.map (clT K kp)))) kp f De σ H := by
  obtain ⟨Z, es, s, hv, k⟩ := h
  refine ⟨Z, es, s, hv, ?_⟩
  unfold fTryC at k
  cases hf : f (ssOf es) with
  | nx ss => rw [hf] at k; exact k
  | bk ss => rw [hf] at k; exact k
  | ct ss => rw [hf] at k; exact k
  | rt r ss => rw [hf] at k; exact k
  | stuck => rw [hf] at k; exact k
  | exc c' fs s1 =>
    rw [hf] at k
    intro Z' H' es' d st s' kd e ed
    subst e
    exact pick_wish x st s' kd ed hk k
end
section
variable {X : Cx} {E : EW} {kp : List Nat} {T : XT}
inductive HdsM (X : Cx) (kp : List Nat) : List ExceptHandler → List Cl → Prop
  | nil : HdsM X kp [] []
  | only {t : Expr} {ds : List D} {f : FS} {b₀ : Stmt} {suite : List Stmt} {pos' : Pos} {hds : List ExceptHandler} {l : List Cl} (hc : TestX X t (ds.map (xval X.K)))
      (hsu : ∀ (a : Addr) (pn : List (Addr × Obj)), PSs (X.suite a pn) (b₀ :: suite) (RS X.K EN kp f)) (r : HdsM X kp hds l) : HdsM X kp (.ExceptHandler (some t) none (b₀ :: suite) pos' :: hds) (⟨ds, none, f⟩ :: l)
  | named {t : Expr} {ds : List D} {n : Str} {i : Nat} {f : FS} {b₀ : Stmt} {suite : List Stmt} {pos' : Pos} {hds : List ExceptHandler} {l : List Cl} (hc : TestX X t (ds.map (xval X.K)))
      (hi : X.N[i]? = some n) (hln : X.env.kindOf n = some .local) (hsu : ∀ (a : Addr) (pn : List (Addr × Obj)), PSs (X.suite a pn) (b₀ :: suite) (RS X.K EN kp f)) (r : HdsM X kp hds l) :
      HdsM X kp (.ExceptHandler (some t) (some n) (b₀ :: suite) pos' :: hds) (⟨ds, some i, f⟩ :: l)
theorem HdsM.toT : ∀ {hds : List ExceptHandler} {l : List Cl}, HdsM X kp hds l → HdsT X hds (l.map (clT X.K kp))
  | _, _, .nil => .nil
  | _, _, .only hc hsu r => .only hc (fun a _ _ pn => hsu a pn) r.toT
  | _, _, .named hc hi hln hsu r => .named hc hi hln (fun a _ _ pn => hsu a pn) r.toT
theorem cs_tryC {body : List Stmt} {h₀ : ExceptHandler} {hds : List ExceptHandler} {l : List Cl} {f : FS} {pos : Pos} (hs : X.stack = X.env :: X.outer) (hf : X.env.frame = some X.env.locals) (hN : X.N.Nodup) (hex : X.ex = []) (tk : Takes X (fun cls d σ H => E σ cls d H))
    (x : XmT X.K T) (hk : ∀ k ∈ l, ∀ i, k.nm = some i → i ∉ kp)
    (hb : ∀ (W : WX) (pn : List (Addr × Obj)) (xe : Value → Shared → Prop), Takes (X.tr pn xe) W → PassesOwn (model X.prog X.w) X.A X.env xe → PSs (X.tr pn xe) body (RS X.K (WE W) kp f))
    (hh : HdsM X kp (h₀ :: hds) l) : PS X (.Try body (h₀ :: hds) [] [] pos) (RS X.K E kp (fTryC T f l)) :=
  ps_mono (ps_try_trk (tb := fun W => RS X.K (WE W) kp f) hs hf hN hex tk hb hh.toT) fun De σ H z => rs_tryC x hk z
theorem names_own {x c : Str} {X : Cx} (hg : Gl X x) (hm : X.mg x = some (.ref (He.ga X.K c))) (hd : (x == ("__debug__" : Str)) = false) : Names X x (xval X.K (.obj c)) := ⟨hg, hd, .inl hm⟩
end
section
variable {T : XT} {c : Str} {fs : List (Str × D)} {ss s1 : List Sl} {l : List Cl} {k : Cl} {b : FS} {o : So} {r : Sl} {i : Nat} {d : D}
theorem e_tryC : fTryC T b l ss = ktryC T l (b ss) := rfl
theorem e_tryCn : ktryC T l (.nx ss) = .nx ss := rfl
theorem e_tryCr : ktryC T l (.rt r ss) = .rt r ss := rfl
theorem e_tryCb : ktryC T l (.bk ss) = .bk ss := rfl
theorem e_tryCc : ktryC T l (.ct ss) = .ct ss := rfl
theorem e_tryCe : ktryC T l (.exc c fs ss) = pickC T c fs ss l := rfl
theorem e_pickC0 : pickC T c fs ss [] = .exc c fs ss := rfl
def pickC1 (T : XT) (c : Str) (fs : List (Str × D)) (ss : List Sl) (k : Cl) (r : List Cl) : Option Bool → So
  | some true => runC k (.err c fs) ss
  | some false => pickC T c fs ss r
  | none => .stuck
theorem e_pickC1 : pickC T c fs ss (k :: l) = pickC1 T c fs ss k l (isXs T c k.ds) := by
  show (match isXs T c k.ds with | some true => _ | some false => _ | none => _) = _
  cases isXs T c k.ds with
  | none => rfl
  | some b => cases b <;> rfl
theorem e_pickt : pickC1 T c fs ss k l (some true) = runC k (.err c fs) ss := rfl
theorem e_pickf : pickC1 T c fs ss k l (some false) = pickC T c fs ss l := rfl
theorem e_runC0 {ds : List D} : runC ⟨ds, none, b⟩ d ss = (b ss).wipeC none := rfl
theorem e_runC1 {ds : List D} : runC ⟨ds, some i, b⟩ d ss = if i < ss.length then (b (setS i (.fz d) ss)).wipeC (some i) else .stuck := by
  unfold runC nameC
  dsimp only
  by_cases h : i < ss.length
  · rw [if_pos h, if_pos h]
  · rw [if_neg h, if_neg h]
theorem e_w0n : (So.nx ss).wipeC none = .nx ss := rfl
theorem e_w0r : (So.rt r ss).wipeC none = .rt r ss := rfl
theorem e_w0b : (So.bk ss).wipeC none = .bk ss := rfl
theorem e_w0c : (So.ct ss).wipeC none = .ct ss := rfl
theorem e_w1n : (So.nx ss).wipeC (some i) = if i < ss.length then .nx (setS i .un ss) else .stuck := rfl
theorem e_w1r : (So.rt r ss).wipeC (some i) = .rt r ss := rfl
theorem e_w1b : (So.bk ss).wipeC (some i) = if i < ss.length then .bk (setS i .un ss) else .stuck := rfl
theorem e_w1c : (So.ct ss).wipeC (some i) = if i < ss.length then .ct (setS i .un ss) else .stuck := rfl
end
end Mi
namespace Mi
open PySem PySem.Spec PyProof.Rows L2 Rt
theorem errO_inst {P : Program} {w : World} {H : Hp} {h : Heap} {a dx C : Addr} {fs : List (Str × V)} (ok : HOk P w H h) (e : H a = some (ErrO a (.ref C) dx)) (ed : H dx = some (.xd fs)) :
    ∃ ox od, PySem.W.InstAt h a ox C (some od) ∧ ∀ n, ∃ o, RelO (fs.lookup n) o ∧ PySem.W.lookIn n od = some o := by
  obtain ⟨⟨oe, vs, he, hz, hd⟩, _, _⟩ := ok a _ e
  obtain ⟨mA, hns, hr⟩ := ok dx _ ed
  obtain ⟨od, ho, hl⟩ := lookIn_ns hns
  exact ⟨oe, od, ⟨he, hz.1, by unfold PySem.W.notCls; rw [hd] <;> rfl, by rw [hz.2]; exact ho⟩, fun n => ⟨mA n, hr n, hl n⟩⟩
theorem errO_kit {K : PySem.W.Frag} {a C : Addr} {ox od : Obj} (E : ExcC K C) : PySem.W.KitX K (.ref a) (.ref C) fun h => PySem.W.InstAt h a ox C (some od) :=
  PySem.W.kitx_exc (by obtain ⟨cd, hc, _⟩ := PySem.W.any_some E.hd; rw [hc]; rfl) E.hg E.hk E.hs E.ha E.hn E.ht E.hm
/-- isinstance(e, c) and isinstance(e, (c1, c2, ..)), e an error -/
def rIsiE (K : PySem.W.Frag) : List V → Hp → VK → Prop := fun xs H Q => ∃ (a C dx : Addr) (fs : List (Str × V)) (c : V) (cv : Value) (b : Bool), xs = [.ref a, c] ∧ H a = some (ErrO a (.ref C) dx) ∧ H dx = some (.xd fs) ∧ ExcC K C ∧ ClsV c cv ∧ PySem.W.kitOne K (.ref C) cv = some b ∧ Q (.bl b) H
def rIsiEL (K : PySem.W.Frag) : List V → Hp → VK → Prop := fun xs H Q => ∃ (a C dx tp : Addr) (fs : List (Str × V)) (cs : List V) (us : List Value) (b : Bool), xs = [.ref a, .ref tp] ∧ H a = some (ErrO a (.ref C) dx) ∧ H dx = some (.xd fs) ∧ ExcC K C ∧ Rd H tp (.tup cs) ∧ Paired ClsV cs us ∧ PySem.W.kitAny K (.ref C) us = some b ∧ Q (.bl b) H
section
variable {X : Cx}
theorem call_isiE : CallR X (.builtin "isinstance") (rIsiE X.K) := by
  intro pins s σ H xs us Q I r h
  obtain ⟨a, C, dx, fs, c, cv, b, rfl, ha, hd, EC, k, e, q⟩ := h
  obtain ⟨u1, u2, rfl, r1, r2⟩ := vals2 r
  cases (show u1 = Value.ref a from r1)
  have e2 := k.eq r2
  subst e2
  obtain ⟨ox, od, J, _⟩ := errO_inst I.hok ha hd
  exact PySem.W.kia_one (errO_kit EC) I.kIn J e (fun z => nomatch z) fun tk => ⟨.bl b, H, I.tok tk, rfl, q⟩
theorem call_isiEL : CallR X (.builtin "isinstance") (rIsiEL X.K) := by
  intro pins s σ H xs us Q I r h
  obtain ⟨a, C, dx, tp, fs, cs, ws, b, rfl, ha, hd, EC, hT, k, e, q⟩ := h
  obtain ⟨u1, u2, rfl, r1, r2⟩ := vals2 r
  cases (show u1 = Value.ref a from r1)
  cases (show u2 = Value.ref tp from r2)
  obtain ⟨ox, od, J, _⟩ := errO_inst I.hok ha hd
  obtain ⟨_, its, rv, o, h1, h2, n, h3⟩ := (show ObjOk X.prog X.w H s.heap tp (.tup cs) from hT.ok I.hok)
  have e3 := ClsV.all k rv
  subst e3
  obtain ⟨oc, od', dt, sl⟩ := o
  simp only at h2 h3
  subst h2 h3
  exact PySem.W.kia_tup (errO_kit EC) I.kIn J h1 e (fun z => nomatch z) fun tk => ⟨.bl b, H, I.tok tk, rfl, q⟩
end
/-- the own errors of a table: what is asked of their classes -/
def XcT (K : PySem.W.Frag) (T : XT) : Prop := ∀ p ∈ T, ExcC K (He.ga K p.1)
theorem xcT_of {K : PySem.W.Frag} {T : XT} (h : xcTB K T = true) : XcT K T := fun p hp => by
  have := List.all_eq_true.mp h p hp
  simp only [Bool.and_eq_true, decide_eq_true_eq] at this
  obtain ⟨h1, h2, h3, h4, h5, h6, h7, h8⟩ := this
  exact ⟨h1, h2, h3, h4, h5, h6, h7, h8⟩
section
variable {K : PySem.W.Frag} {T : XT} {c : Str} {Z H : Hp} {t : Tg} {v : V} {fp : List Addr} {fs : List (Str × D)}
theorem FRep.err_of {Z : Hp} (h : FRep K Z v (.err c fs)) : ∃ a dx gs, v = .ref a ∧ Z a = some (ErrO a (.ref (He.ga K c)) dx) ∧ Z dx = some (.xd gs) ∧ gs.map (·.1) = fs.map (·.1) ∧ FReps K Z (gs.map (·.2)) (fs.map (·.2)) := by
  obtain ⟨a, vs, h1, h2, h3⟩ := h.node_of (k := .err (He.ga K c) (fs.map (·.1))) (ds := fs.map (·.2)) rfl
  rcases h3 with ⟨o, h3, h4⟩ | ⟨dx, gs, e1, e2, e3, e4⟩
  · cases o with
    | frz b o => cases (oview_frz h4).1
    | _ => cases h4
  · exact ⟨a, dx, gs, h1, e1, e2, e3, by rw [e4]; exact h2⟩
theorem rep_errR (s : SubM K Z H) (h : Rep K Z H t v (.err c fs) fp) : ∃ a dx gs, v = .ref a ∧ H a = some (ErrO a (.ref (He.ga K c)) dx) ∧ H dx = some (.xd gs) ∧ gs.map (·.1) = fs.map (·.1) ∧ FReps K (rdH H) (gs.map (·.2)) (fs.map (·.2)) := by
  obtain ⟨a, dx, gs, h1, h2, h3, h4, h5⟩ := (h.rd s.toSub).err_of
  refine ⟨a, dx, gs, h1, ?_, ?_, h4, h5⟩
  · rcases of_rdH h2 with z | ⟨z, _⟩
    · exact z
    · exact (show False from z).elim
  · rcases of_rdH h3 with z | ⟨z, _⟩
    · exact z
    · exact (show False from z).elim
theorem rep_err_fz (s : SubM K Z H) (h : Rep K Z H t v (.err c fs) fp) : FRep K Z v (.err c fs) := by
  cases t with
  | fz => exact h.1
  | o1 =>
    rcases h with ⟨h, _⟩ | ⟨a, o, k, vs, ds, h1, h2, h3, h4, h5, h6⟩
    · exact .leaf h
    · cases h4
      cases o with
      | frz b o => cases (oview_frz h3).1
      | _ => cases h3
  | nd ch =>
    rcases h with ⟨h, _⟩ | ⟨a, o, k, vs, ds, f, h1, h2, h3, h4, h5, h6⟩
    · exact .leaf h
    · cases h4
      cases o with
      | frz b o => cases (oview_frz h3).1
      | _ => cases h3
theorem exm_kit {t : Value} {u : Value} {b : Bool} (h : PySem.W.exmOne K t u = some b) (hs : t = u → b = true) : PySem.W.kitOne K t u = some b := by
  unfold PySem.W.exmOne at h
  split at h
  · unfold PySem.W.kitOne
    by_cases e : t = u
    · subst e
      rw [if_pos (by simp), hs rfl]
    · rw [if_neg (by simpa using e)]
      exact h
  · cases h
theorem isX1_kit (x : XmT K T) {d : D} {b : Bool} (h : isX1 T c d = some b) : PySem.W.kitOne K (.ref (He.ga K c)) (xval K d) = some b ∧ (∃ p ∈ T, p.1 = c) ∧ (∃ w, ∀ {Z : Hp} {y : V}, FRep K Z y d → y = w ∧ ClsV w (xval K d)) := by
  have h1 := isX1_of x h
  unfold isX1 at h
  split at h
  · split at h
    · rename_i e hc
      cases h
      rw [Bool.and_eq_true] at hc
      obtain ⟨p, hp, ep⟩ := xok_mem hc.1
      refine ⟨exm_kit h1 fun ez => ?_, ⟨p, hp, ep⟩, .ref (He.ga K e), fun q => by cases q.leaf_of (d := .obj e) rfl; exact ⟨rfl, .own _⟩⟩
      have := x.oo p hp p hp
      rw [ep] at this
      rw [← ez] at h1
      rw [h1] at this
      rw [Option.some.inj this]
      exact decide_eq_true rfl
    · cases h
  · split at h
    · rename_i n hc
      cases h
      rw [Bool.and_eq_true] at hc
      obtain ⟨p, hp, ep⟩ := xok_mem hc.1
      exact ⟨exm_kit h1 (fun ez => by cases ez), ⟨p, hp, ep⟩, .ty n, fun q => by cases q.leaf_of (d := .ty n) rfl; exact ⟨rfl, .ty n⟩⟩
    · cases h
  · cases h
theorem isXs_kit (x : XmT K T) : ∀ {ds : List D} {b : Bool} {vs : List V} {Z : Hp}, isXs T c ds = some b → FReps K Z vs ds → (∃ us, Paired ClsV vs us ∧ PySem.W.kitAny K (.ref (He.ga K c)) us = some b)
  | [], b, _, _, h, .nil => ⟨[], .nil, h⟩
  | d :: r, b, _, _, h, .cons q t => by
    obtain ⟨b1, h1, h2⟩ := Option.bind_eq_some_iff.mp h
    obtain ⟨b2, h3, h4⟩ := Option.bind_eq_some_iff.mp h2
    cases h4
    obtain ⟨g1, _, w, g2⟩ := isX1_kit x h1
    obtain ⟨rfl, cv⟩ := g2 q
    obtain ⟨us, p, hk⟩ := isXs_kit x h3 t
    refine ⟨_ :: us, .cons cv p, ?_⟩
    unfold PySem.W.kitAny
    rw [g1]
    cases b1 with
    | true => rfl
    | false => exact hk
def opIsiX (T : XT) : List (Tg × D) → Option Sl
  | [(_, .err c _), (u, x)] => match x with
    | .tup (e :: es) => if u.flat = true ∧ xok T c = true then (isXs T c (e :: es)).map fun b => .fz (.bl b) else none
    | x => (isX1 T c x).map fun b => .fz (.bl b)
  | _ => none
def rIsiEK (K : PySem.W.Frag) : List V → Hp → VK → Prop := fun xs H Q => ∃ (a C dx tp : Addr) (dd : Option Addr) (fs : List (Str × V)) (us : List Value) (n : Nat) (sl : Array (Option Value)) (b : Bool), xs = [.ref a, .ref tp] ∧ H a = some (ErrO a (.ref C) dx) ∧ H dx = some (.xd fs) ∧ ExcC K C ∧
  K.lookup tp = some ⟨.type "tuple", dd, .seq us.toArray n, sl⟩ ∧ PySem.W.kitAny K (.ref C) us = some b ∧ Q (.bl b) H
theorem call_isiEK {X : Cx} : CallR X (.builtin "isinstance") (rIsiEK X.K) := by
  intro pins s σ H xs us Q I r h
  obtain ⟨a, C, dx, tp, dd, fs, ws, n, sl, b, rfl, ha, hd, EC, hk, e, q⟩ := h
  obtain ⟨u1, u2, rfl, r1, r2⟩ := vals2 r
  cases (show u1 = Value.ref a from r1)
  cases (show u2 = Value.ref tp from r2)
  obtain ⟨ox, od, J, _⟩ := errO_inst I.hok ha hd
  exact PySem.W.kia_tup (errO_kit EC) I.kIn J (I.kIn _ _ hk) e (fun z => nomatch z) fun tk => ⟨.bl b, H, I.tok tk, rfl, q⟩
def rIsiX (K : PySem.W.Frag) : List V → Hp → VK → Prop := fun xs H Q => rIsiE K xs H Q ∨ rIsiEL K xs H Q ∨ rIsiEK K xs H Q
theorem call_isiX {X : Cx} : CallR X (.builtin "isinstance") (rIsiX X.K) := call_isiE.or (call_isiEL.or call_isiEK)
theorem op_isiX_ok (x : XmT K T) (C : XcT K T) : OpN K (rIsiX K) (opIsiX T) := by
  intro Z H vs xs res Q s hs h k
  unfold opIsiX at h
  split at h
  · rename_i t c fs u y
    cases hs with
    | cons h1 hs =>
      cases hs with
      | cons h2 hs =>
        cases hs
        rename_i v1 v2
        obtain ⟨f1, h1⟩ := h1
        obtain ⟨f2, h2⟩ := h2
        obtain ⟨a, dx, gs, rfl, e1, e2, _, _⟩ := rep_errR s h1
        split at h
        · rename_i e es
          split at h
          · rename_i hf
            obtain ⟨b, e3, rfl⟩ := Option.map_eq_some_iff.mp h
            obtain ⟨p, hp, ep⟩ := xok_mem hf.2
            obtain ⟨Z1, s1, r1, tp, ws, rfl, fr, q⟩ := h2.flat hf.1 s rfl
            obtain ⟨us, pr, hk⟩ := isXs_kit x e3 fr
            rcases q with ⟨o, q, q2⟩ | ((q | ⟨o, q⟩) | ⟨o, its, n, q1, q2, q3, _, q4⟩) | tx
            · rw [oview_tup q2] at q
              have q' : H tp = some (.tup ws) := at_of s (fun z => z) q
              exact .inr (.inl ⟨a, _, dx, tp, gs, ws, us, b, rfl, e1, e2, ep ▸ C p hp, .inl q', pr, hk, nl s k (.bl _)⟩)
            · cases q
            · cases q
            · refine .inr (.inr ⟨a, _, dx, tp, o.dict, gs, its.toList, n, o.slots, b, rfl, e1, e2, ep ▸ C p hp, ?_, by rw [ClsV.all pr q4]; exact hk, nl s k (.bl _)⟩)
              rw [q1]
              obtain ⟨c1, c2, c3, c4⟩ := o
              dsimp only at q2 q3 ⊢
              subst q2 q3
              rfl
            · obtain ⟨b', hb', _⟩ := tx.at_ s.toSub
              exact .inr (.inl ⟨a, _, dx, tp, gs, ws, us, b, rfl, e1, e2, ep ▸ C p hp, .inr ⟨b', hb'⟩, pr, hk, nl s k (.bl _)⟩)
          · cases h
        · obtain ⟨b, e3, rfl⟩ := Option.map_eq_some_iff.mp h
          obtain ⟨g1, ⟨p, hp, ep⟩, w, g2⟩ := isX1_kit x e3
          obtain ⟨rfl, cv⟩ := g2 (h2.rd s.toSub)
          exact .inl ⟨a, _, dx, gs, _, _, b, rfl, e1, e2, ep ▸ C p hp, cv, g1, nl s k (.bl _)⟩
  · cases h
end
end Mi
namespace Mi
open PySem PySem.Spec PyProof.Rows L2 Rt
/-- own errors and their fields -/
def XfT (K : PySem.W.Frag) (T : XF) : Prop := ∀ p ∈ T, XfC K (He.ga K p.1) ∧ PySem.W.findIn K (.ref (He.ga K p.1)) p.2 = some none
theorem xfT_of {K : PySem.W.Frag} {T : XF} (h : xfTB K T = true) : XfT K T := fun p hp => by
  have := List.all_eq_true.mp h p hp
  rw [Bool.and_eq_true] at this
  exact ⟨xfB_ok this.1, of_decide_eq_true this.2⟩
def xhas (T : XF) (c f : Str) : Bool := T.any fun p => decide (p.1 = c) && decide (p.2 = f)
def opFldX (T : XF) (f : Str) (_ : Tg) : D → Option Sl
  | .err c fs => if xhas T c f = true then (fs.lookup f).map .fz else none
  | _ => none
def rFldX (K : PySem.W.Frag) (f : Str) : V → Hp → VK → Prop := fun x H Q => ∃ (a C dd : Addr) (fs : List (Str × V)) (v : V), x = .ref a ∧ XfC K C ∧ PySem.W.findIn K (.ref C) f = some none ∧ H a = some (ErrO a (.ref C) dd) ∧ H dd = some (.xd fs) ∧ fs.lookup f = some v ∧ Q v H
section
variable {X : Cx} {e : Expr} {te : TE} {n : Str} {pos : Pos}
theorem pe_fldX (he : PE X e te) (hb : attributeBase e n X.env (eval e X.env) = eval e X.env := by rfl) : PE X (.Attribute e n pos) (tUn (rFldX X.K n) te) := by
  refine ⟨fun pins s σ H Q I h => attr_of hb (thn (he.run pins s σ H _ I h) fun u s1 hh => ?_)⟩
  obtain ⟨x, H1, I1, rx, a, C, dd, fs, v, rfl, T, no, ea, ed, l, q⟩ := hh
  obtain rfl : u = Value.ref a := rx
  obtain ⟨ox, od, J, lk⟩ := errO_inst I1.hok ea ed
  obtain ⟨o, ro, lo⟩ := lk n
  obtain ⟨w, rfl, rw'⟩ := RelO.some_of (v := v) (o := o) (by rw [← l]; exact ro)
  exact HandSPX.exc_get I1.kIn J T.ga T.gg T.exC (PySem.W.findObj_own T.hdC no rfl lo) (handed_of rw') ⟨v, H1, I1.tok _, rw', q⟩
end
section
variable {K : PySem.W.Frag} {T : XF} {f : Str}
theorem op_fldX_ok (x : XfT K T) : Op1 K (rFldX K f) (opFldX T f) := by
  intro Z H t d v fp res Q s hr e k
  unfold opFldX at e
  split at e
  · rename_i c fs
    split at e
    · rename_i hc
      obtain ⟨p, hp, ep⟩ := List.any_eq_true.mp hc
      rw [Bool.and_eq_true, decide_eq_true_eq, decide_eq_true_eq] at ep
      obtain ⟨rfl, rfl⟩ := ep
      obtain ⟨y, e1, rfl⟩ := Option.map_eq_some_iff.mp e
      have fz := rep_err_fz s hr
      obtain ⟨a, dx, gs, rfl, q1, q2, q3, q4⟩ := fz.err_of
      rcases lookup_rel (f := p.2) q3 q4 with ⟨_, z⟩ | ⟨v, d', z1, z2, z3⟩
      · rw [z] at e1; cases e1
      · rw [e1] at z2; cases z2
        exact ⟨a, _, dx, gs, v, rfl, (x p hp).1, (x p hp).2, s.toSub.ext q1, s.toSub.xd q2, z1, k _ _ _ _ (New.fz s z3)⟩
    · cases e
  · cases e
end
section
variable {T : XT} {T2 : XF} {c f : Str} {fs : List (Str × D)} {t u : Tg} {d : D} {ds : List D} {n : String} {g : Str}
theorem e_fldX : opFldX T2 f t (.err c fs) = if xhas T2 c f = true then (fs.lookup f).map .fz else none := rfl
theorem e_isiXo : opIsiX T [(t, .err c fs), (u, .obj g)] = (isX1 T c (.obj g)).map fun b => .fz (.bl b) := rfl
theorem e_isiXt : opIsiX T [(t, .err c fs), (u, .ty n)] = (isX1 T c (.ty n)).map fun b => .fz (.bl b) := rfl
theorem e_isiXl : opIsiX T [(t, .err c fs), (u, .tup (d :: ds))] = if u.flat = true ∧ xok T c = true then (isXs T c (d :: ds)).map fun b => .fz (.bl b) else none := rfl
end
end Mi
namespace Mi
open PySem PySem.Spec PyProof.Rows L2 Rt
/-- how the deed ends -/
inductive Dd where
  | ret (d : D) | exc (c : Str) (fs : List (Str × D)) | stuck
section
variable {K : PySem.W.Frag} {E : EW} {σ : L2.St} {Z H : Hp} {es ts : List Ent}
end
end Mi
namespace Mi
open PySem PySem.Spec PyProof.Rows L2 Rt
section
variable {K : PySem.W.Frag} {Z H : Hp} {P c f : Addr} {q : Str} {ps more : Array Value} {vs : List V} {ds : List D} {m : Array Value}
end
section
variable {X : Cx} {pins : List (Addr × Obj)} {σ : L2.St} {Z H : Hp} {s : Shared} {c P : Addr} {params : Arguments} {body : Expr} {scope : Scope} {pos : Pos} {vs : List V} {ds : List D} {m : Array Value}
/-- what is known of the function that a lambda makes -/
structure Made (X : Cx) (s : Shared) (H : Hp) (params : Arguments) (body : Expr) (scope : Scope) (f c' : Addr) : Prop where
  get : ∃ pm ctv, s.heap.get? f = some (PySem.W.kla_obj "<lambda>" (X.env.qual ++ "<lambda>") params body scope (cloFrom X.env.cells scope.names []) pm c' ctv)
  off : H f = none
  fr : f ∉ frs X.stack
end
section
variable {X : Cx} {pins : List (Addr × Obj)} {σ : L2.St} {H : Hp} {s : Shared}
end
section
variable {X : Cx} {E : EW}
end
end Mi
namespace Mi
open PySem PySem.Spec PyProof.Rows L2 Rt
section
variable {P : Program} {w : World} {K : PySem.W.Frag} {mg : Str → Option Value} {base : Heap} {x qual : Str} {params : Arguments} {body : List Stmt} {scope : Scope} {dvs : List V} {kws : List (Str × V)} {f : Addr} {fd : FuncData} {CX : CXT} {N ps : List Str} {k : Nat} {sp : Sp}
end
section
variable {X : Cx} {E : EW} {e : Expr}
end
end Mi
namespace Mi
open PySem PySem.Spec PyProof.Rows L2 Rt
section
variable {d : D} {c : Str} {fs : List (Str × D)} {ss : List Sl} {i j : Nat} {fn : D} {o : Dd} {t : Tg}
end
section
variable {K : PySem.W.Frag}
end
section
variable {t u : Tg} {a : Str} {i : Int}
end
end Mi
namespace Mi
open PySem PySem.Spec PyProof.Rows L2 Rt
/-- what is guarded is nothing that H knows -/
def GOk (K : PySem.W.Frag) (g : List Code) (H : Hp) (h : Heap) : Prop := ∀ a, ¬ Clear g a → H a = none ∧ (∃ o, h.get? a = some o) ∧ K.lookup a = none
theorem GOk.nil {K : PySem.W.Frag} {H : Hp} {h : Heap} : GOk K [] H h := fun a n => (n (Clear.nil a)).elim
/-- as FnG, where guards may be up over what H does not know -/
structure FnI (P : Program) (w : World) (K : PySem.W.Frag) (mg : Str → Option Value) (base : Heap) (CX : CXT) (k : Nat) (f : Addr) (fd : FuncData) (ps : List Str) (sp : Sp) : Prop where
  len : ∀ vs H Q E, sp vs H Q E → vs.length = ps.length
  at_ : ∀ (A : Around) (g : List Code), A.guards = some g → Room k A → ∀ (outer : List Env) (s : Shared) (H : Hp) (args : Args) (us : List Value) (vs : List V) (Q : VK) (E : XK), GOk K g H s.heap → Env0 P w K mg base A outer s H → BindsTo s fd args (ps.zip us) → Vals vs us → sp vs H Q E →
    codeAny (model P w) A (.call (.ref f) args) (CR CX outer P w H s Q E) s
section
variable {P : Program} {w : World} {K : PySem.W.Frag} {mg : Str → Option Value} {base : Heap} {CX : CXT} {k j : Nat} {f : Addr} {fd : FuncData} {ps : List Str} {sp : Sp}
theorem FnI.toG (F : FnI P w K mg base CX k f fd ps sp) : FnG P w K mg base CX k f fd ps sp := ⟨F.len, fun A hG hr outer s H args us vs Q E => F.at_ A [] hG hr outer s H args us vs Q E GOk.nil⟩
theorem FnI.of (F : FnOk P w K mg base CX k f fd ps sp) : FnI P w K mg base CX k f fd ps sp := ⟨F.len, fun A _ _ hr outer s H args us vs Q E _ => F.run A outer s H args us vs Q E hr⟩
end
section
variable {P : Program} {w : World} {K : PySem.W.Frag} {mg : Str → Option Value} {base : Heap} {x qual : Str} {params : Arguments} {body : List Stmt} {scope : Scope} {dvs : List V} {kws : List (Str × V)} {f : Addr} {fd : FuncData}
end
section
variable {X : Cx} {pins : List (Addr × Obj)} {σ : L2.St} {H : Hp} {s : Shared}
end
end Mi
namespace Mi
open PySem PySem.Spec PyProof.Rows L2 Rt
section
variable {X : Cx} {n : Nat}
end
section
variable {X : Cx} {n : Nat} {A : Around} {R : Result → Shared → Prop} {pins : List (Addr × Obj)} {σ : L2.St} {W : Hp → Prop}
end
section
variable {X : Cx} {n : Nat} {CX : CXT} {c : Str} {m : Fm} {E0 : XK} {f : Addr} {fd : FuncData} {ps : List Str}
end
section
variable {c : Str} {m : Fm} {t : Tg} {fs : List (Str × D)}
end
end Mi
namespace Mi
open PySem PySem.Spec PyProof.Rows L2 Rt PySem.Calls PySem.SeqAt PySem.MeetsSeq
section
variable {A : Around} {s : Shared}
end
end Mi
namespace Mi
open PySem PySem.Spec PyProof.Rows L2 Rt
def mrgV (gs more : List (Key × V)) : List (Key × V) := more.foldl (fun acc p => putK acc p.1 p.2) gs
def mrgD (kvs more : List (Key × D)) : List (Key × D) := more.foldl (fun acc p => putD acc p.1 p.2) kvs
theorem mrgV_len : ∀ (more gs : List (Key × V)), (mrgV gs more).length ≤ gs.length + more.length
  | [], gs => Nat.le_refl _
  | p :: r, gs => by
    have h1 := mrgV_len r (putK gs p.1 p.2)
    have h2 := length_putK gs p.1 p.2
    show (mrgV (putK gs p.1 p.2) r).length ≤ _
    rw [List.length_cons]; omega
theorem mrg_kv : ∀ {more : List (Key × V)} {ws : List (Key × Value)} {gs : List (Key × V)} {vs : List (Key × Value)}, KV gs vs → KV more ws → KV (mrgV gs more) (merged vs ws)
  | _, _, _, _, h, .nil => h
  | p :: r, q :: s, gs, vs, h, .cons e t => by
    obtain ⟨e1, e2⟩ := e
    show KV (mrgV (putK gs p.1 p.2) r) (merged (stored vs q.1 q.2) s)
    rw [← e1]
    exact mrg_kv (h.put p.1 e2) t
theorem mrg_rel {K : PySem.W.Frag} {Z : Hp} : ∀ {mg : List (Key × V)} {md : List (Key × D)} {gs : List (Key × V)} {kvs : List (Key × D)}, mg.map (·.1) = md.map (·.1) → FReps K Z (mg.map (·.2)) (md.map (·.2)) → gs.map (·.1) = kvs.map (·.1) → FReps K Z (gs.map (·.2)) (kvs.map (·.2)) →
    (mrgV gs mg).map (·.1) = (mrgD kvs md).map (·.1) ∧ FReps K Z ((mrgV gs mg).map (·.2)) ((mrgD kvs md).map (·.2))
  | [], [], _, _, _, _, h, h' => ⟨h, h'⟩
  | [], _ :: _, _, _, e, _, _, _ => by cases e
  | _ :: _, [], _, _, e, _, _, _ => by cases e
  | p :: r, q :: s, gs, kvs, e, fr, h, h' => by
    simp only [List.map_cons, List.cons.injEq] at e fr
    cases fr with
    | cons f0 fr =>
      obtain ⟨g1, g2⟩ := putD_rel (k := p.1) h h' f0
      have := mrg_rel e.2 fr g1 g2
      show (mrgV (putK gs p.1 p.2) r).map (·.1) = (mrgD (putD kvs q.1 q.2) s).map (·.1) ∧ FReps K Z ((mrgV (putK gs p.1 p.2) r).map (·.2)) ((mrgD (putD kvs q.1 q.2) s).map (·.2))
      rw [← e.1]
      exact this
def rUpdate : V → List V → Hp → VK → Prop := fun x xs H Q => ∃ (a b : Addr) (gs more : List (Key × V)), x = .ref a ∧ xs = [.ref b] ∧ a ≠ b ∧ H a = some (.dK gs) ∧ Rd H b (.dK more) ∧ gs.length + more.length ≤ sizeLine ∧ Q .non (upd H a (.dK (mrgV gs more)))
theorem mt_update {X : Cx} : MtR X "dict.update" rUpdate := by
  intro pins s σ H x xs v us Q I rx rv h
  obtain ⟨a, b, gs, more, rfl, rfl, ne, ha, hb, hl, q⟩ := h
  cases rx
  obtain ⟨u, rfl, ru⟩ := rv.one
  cases ru
  obtain ⟨z1, n1, vs, r1, d1⟩ := dk_of I.hok ha
  obtain ⟨z2, n2, ws, r2, d2⟩ := dk_rd I.hok hb
  refine call_meetsIn PySem.F.slot_dict_update d1.typeIs PySem.F.entry_dict_update (PySem.F.args_dict_update_2 _ _) (meets_dict_update (mixKind X.prog X.w) a b ne n2) ⟨vs, ws, d1, d2, by rw [← r1.length, ← r2.length]; exact hl, fun h' e1 e2 sb => ?_⟩
  have he : ∃ o, h'.get? a = some o := let ⟨o, _, _, ho, _⟩ := e1; ⟨o, ho⟩
  exact ⟨.non, _, d_write I (by rw [ha]; exact True.intro) sb he (dk_new (by have := mrgV_len more gs; omega) n1 (mrg_kv r1 r2) e1), rfl, q⟩
/-- methods that write: what is written to is nothing frozen -/
def OpZ (K : PySem.W.Frag) (r : V → List V → Hp → VK → Prop) (op : D → List D → Option (D × D)) : Prop := ∀ {Z H : Hp} {a : Addr} {o : HO} {k : Kd} {vs ws : List V} {d : D} {ds xs : List D} {d' res : D} {Q : VK}, SubM K Z H → Z a = none → H a = some o → oview o = some (k, vs) → dview K d = some (k, ds) → FReps K Z vs ds → FReps K Z ws xs → op d xs = some (d', res) →
  (∀ o' k' vs' ds' z, oview o' = some (k', vs') → dview K d' = some (k', ds') → FReps K Z vs' ds' → FRep K Z z res → Q z (upd H a o')) → r (.ref a) ws H Q
/-- the receiver is a dict that the frame owns -/
def ownDk (r : Sl) (ss : List Sl) : Bool := match r with
  | .al i => (match ss[i]? with
    | some (.ow .o1 (.dk _)) => true
    | _ => false)
  | _ => false
def fMUd (op : D → List D → Option (D × D)) (fo : FE) (ft : FA) : FE := fun ss => (fo ss).bind fun p => if ownDk p.1 p.2 = true then (ft p.2).bind fun q => kmu op p.1 q.1 q.2 else .stuck
section
variable {K : PySem.W.Frag} {E : EW} {σ : L2.St} {Z H : Hp} {es us : List Ent} {Q : VK}
theorem kmuZ_ok {r : V → List V → Hp → VK → Prop} {op : D → List D → Option (D × D)} {x : V} {a : Sl} {fx : List Addr} {vs : List V} (ho : OpZ K r op) (hn : ∀ d xs q, op d xs = some q → nodeD d = true) (s : Sat K Z H es ([⟨some x, a, fx⟩] ++ us)) (hv : vsOf es = σ) (e : vsOf us = vs.map some)
    (k : KQ K E σ Z H (fpsOf (es ++ ([⟨some x, a, fx⟩] ++ us))) (kmu op a (ssOf us) (ssOf es)) Q) : r x vs H Q := by
  unfold kmu at k
  cases a with
  | un => exact k.elim
  | fz _ => exact k.elim
  | ow _ _ => exact k.elim
  | al i =>
    dsimp only at k
    obtain ⟨_, u, y, y1, y2, y3⟩ := s.ok ⟨some x, .al i, fx⟩ (by simp)
    cases y3
    rw [show (ssOf es)[i]? = some u.s by rw [List.getElem?_map, y1]; rfl] at k
    split at k
    · rename_i d hu
      have hu' : u.s = .ow .o1 d := by simpa using hu
      split at k
      · rename_i q hq
        obtain ⟨xs, x1, x2⟩ := Option.bind_eq_some_iff.mp hq
        obtain ⟨Z1, s1, st1⟩ := s.freeze (Fzd.refl es) (Fzd.app (Fzd.refl [⟨some x, .al i, fx⟩]) (Fzd.all us))
        have fr := frz_reps (es := es) (us := us) (fun u m => s1.ok u (by simp only [List.mem_append]; exact .inr (.inr m))) x1 e
        have k1 := Kon.from st1 k
        have s2 := s1.bare
        have oku := s2.ok u (List.mem_append_left _ (List.mem_of_getElem? y1))
        have nd := hn _ _ _ x2
        obtain ⟨kk, ds, hd⟩ : ∃ kk ds, dview K d = some (kk, ds) := by
          cases d <;> first | exact ⟨_, _, rfl⟩ | cases nd
        obtain ⟨b, o, ws, o1, o2, o3, o4, o5⟩ := own_node oku hu' hd
        rw [y2] at o1; cases o1
        have zb : Z1 b = none := s2.zf b (by
          refine fps_app.mpr (.inl ?_)
          unfold fpsOf
          exact List.mem_flatMap.mpr ⟨u, List.mem_of_getElem? y1, by rw [o5]; exact List.mem_singleton.mpr rfl⟩)
        refine ho s2.sub zb o2 o3 hd o4 fr x2 fun o' k' vs' ds' z v1 v2 v3 v4 => ?_
        obtain ⟨es4, s4, st4, v5, e4⟩ := s2.writeAt (o := o') (d' := q.1) y1 o5 y2 v1 v2 v3
        obtain ⟨s5, e5⟩ := s4.more (e := ⟨some z, .fz q.2, []⟩) ⟨z, rfl, v4, rfl⟩ rfl
        rw [List.nil_append] at s5 e5
        rw [List.append_nil] at e5
        refine k1 Z1 _ es4 [⟨some z, .fz q.2, []⟩] ?_ s5 (by rw [v5]; exact hv) e4 rfl z rfl
        rw [e5]
        have st4' : Step Z1 H (fpsOf es) Z1 (upd H b o') (fpsOf es4) := by simpa only [List.append_nil] using st4
        exact st4'.wide fun c m => fps_app.mpr (.inl m)
      · exact k.elim
    · exact k.elim
theorem ownDk_ok {x : V} {a : Sl} {fx : List Addr} (s : Sat K Z H es [⟨some x, a, fx⟩]) (h : ownDk a (ssOf es) = true) : tyV K "dict" x H := by
  unfold ownDk at h
  cases a with
  | un => cases h
  | fz _ => cases h
  | ow _ _ => cases h
  | al i =>
    dsimp only at h
    obtain ⟨_, u, y, y1, y2, y3⟩ := s.ok ⟨some x, .al i, fx⟩ (by simp)
    cases y3
    rw [show (ssOf es)[i]? = some u.s by rw [List.getElem?_map, y1]; rfl] at h
    split at h
    · rename_i kvs hu
      have hu' : u.s = .ow .o1 (.dk kvs) := by simpa using hu
      have oku := s.bare.ok u (List.mem_append_left _ (List.mem_of_getElem? y1))
      obtain ⟨b, o, ws, o1, o2, o3, o4, o5⟩ := own_node (k := .dk (kvs.map (·.1))) (ds := kvs.map (·.2)) oku hu' rfl
      rw [y2] at o1; cases o1
      obtain ⟨gs, rfl, _, _⟩ := oview_dk o3
      exact .inr (.inr (.inl ⟨rfl, .inl ⟨gs, o2⟩⟩))
    · cases h
theorem re_muZ {r : V → List V → Hp → VK → Prop} {op : D → List D → Option (D × D)} {fo : FE} {ft : FA} (ho : OpZ K r op) (hn : ∀ d xs q, op d xs = some q → nodeD d = true) (h : RE K E (fMUd op fo ft) σ H Q) : tBM K "dict" r (RE K E fo) (RA K E ft) σ H Q := by
  obtain ⟨Z, es, s, hv, k⟩ := h
  refine RE.next (ts := []) (n := fun p => if ownDk p.1 p.2 = true then (ft p.2).bind fun q => kmu op p.1 q.1 q.2 else .stuck) s hv (by rw [List.append_nil]; exact k) fun a Z1 H1 es1 x fx s1 hv1 k1 => ?_
  dsimp only at k1
  split at k1
  · rename_i ht
    exact ⟨ownDk_ok s1 ht, RA.next (n := fun q => kmu op a q.1 q.2) s1 hv1 k1 fun Z2 H2 es2 us vs e2 s2 hv2 k2 => kmuZ_ok ho hn s2 hv2 e2 k2⟩
  · exact k1.elim
end
section
variable {X : Cx} {E : EW} {e : Expr} {fo : FE} {ft : FA}
theorem cv_muZ {r : V → List V → Hp → VK → Prop} {q : D → List D → Option (D × D)} (hq : OpZ X.K r q) (hn : ∀ d xs p, q d xs = some p → nodeD d = true) (h : PE X e (tBM X.K "dict" r (RE X.K E fo) (RA X.K E ft))) : PE X e (RE X.K E (fMUd q fo ft)) := pe_mono h fun _ _ _ z => re_muZ hq hn z
end
def opUpdate : D → List D → Option (D × D)
  | .dk kvs, [.dk more] => if kvs.length + more.length ≤ sizeLine then some (.dk (mrgD kvs more), .non) else none
  | _, _ => none
theorem opUpdate_node : ∀ d xs q, opUpdate d xs = some q → nodeD d = true := fun d xs q h => by
  unfold opUpdate at h
  split at h
  · rfl
  · cases h
theorem op_update_ok {K : PySem.W.Frag} : OpZ K rUpdate opUpdate := by
  intro Z H a o k vs ws d ds xs d' res Q s za ho hv hd fr frw e kk
  unfold opUpdate at e
  split at e
  · rename_i kvs more
    split at e
    · rename_i hl
      cases e
      cases hd
      obtain ⟨gs, rfl, ek, rfl⟩ := oview_dk hv
      cases frw with
      | cons f1 f2 =>
        cases f2
        obtain ⟨b, vs2, rfl, hs2, h3⟩ := f1.node_of (k := .dk (more.map (·.1))) (ds := more.map (·.2)) rfl
        rcases h3 with ⟨o2, h3, h4⟩ | h3
        · obtain ⟨ms, rfl, em, rfl⟩ := oview_dk h4
          have ne : a ≠ b := fun z => by rw [z, h3] at za; cases za
          have lg : gs.length = kvs.length := by have := congrArg List.length ek; simpa using this
          have lm : ms.length = more.length := by have := congrArg List.length em; simpa using this
          obtain ⟨g1, g2⟩ := mrg_rel em hs2 ek fr
          exact ⟨a, b, gs, ms, rfl, rfl, ne, ho, s.rd h3, by omega, kk (.dK (mrgV gs ms)) (.dk ((mrgV gs ms).map (·.1))) ((mrgV gs ms).map (·.2)) ((mrgD kvs more).map (·.2)) .non rfl (by rw [g1]; rfl) g2 (.leaf .non)⟩
        · exact h3.elim
    · cases e
  · cases e
theorem e_update {kvs more : List (Key × D)} : opUpdate (.dk kvs) [.dk more] = if kvs.length + more.length ≤ sizeLine then some (.dk (mrgD kvs more), .non) else none := rfl
theorem e_mrg0 {kvs : List (Key × D)} : mrgD kvs [] = kvs := rfl
theorem e_mrg1 {kvs more : List (Key × D)} {k : Key} {v : D} : mrgD kvs ((k, v) :: more) = mrgD (putD kvs k v) more := rfl
section
variable {up : D → List D → Option (D × D)} {fo : FE} {ft : FA} {ss : List Sl} {a : Sl} {i : Nat} {kvs : List (Key × D)}
def cMud1 (up : D → List D → Option (D × D)) (ft : FA) (p : Sl × List Sl) : Ro (Sl × List Sl) := if ownDk p.1 p.2 = true then (ft p.2).bind (cMu2 up p.1) else .stuck
def ownDk1 : Option Sl → Bool
  | some (.ow .o1 (.dk _)) => true
  | _ => false
theorem e_mud : fMUd up fo ft ss = (fo ss).bind (cMud1 up ft) := rfl
theorem e_cmud1 : cMud1 up ft (a, ss) = if ownDk a ss = true then (ft ss).bind (cMu2 up a) else .stuck := rfl
theorem e_ownDk : ownDk (.al i) ss = ownDk1 ss[i]? := by
  unfold ownDk ownDk1
  rfl
theorem e_ownDk1 : ownDk1 (some (.ow .o1 (.dk kvs))) = true := rfl
end
end Mi
namespace Mi
open PySem PySem.Spec PyProof.Rows L2 Rt PySem.Calls
section
open PySem.SeqAt
open AutoSeq1 (wpAny_loadPart')
open MeetsSeq MeetsSeq2 MeetsSeq3 SeqRoads2
variable {prog : Program} {w : World} {A : Around} {R : Result → Shared → Prop}
end
section
variable {X : Cx} {c : Str} {f : Addr} {m : Fm} {E0 : XK} {n : Nat} {fd : FuncData} {ps : List Str} {CX : CXT}
end
end Mi
namespace Mi
open PySem PySem.Spec PyProof.Rows L2 Rt
/-- the forms of what is owned: lists, dicts, dicts of tuples, tuples, instances by their fields' names -/
structure Bad where
  lst : Bool
  dk : Bool
  dt : Bool
  tup : Bool
  ins : List (List Str)
section
variable {K : PySem.W.Frag} {Z Z' H H' : Hp} {b : Bad} {F : List Addr}
end
section
variable {X : Cx} {pins : List (Addr × Obj)} {σ : L2.St} {H : Hp} {s : Shared} {F : List Addr}
end
end Mi
namespace Mi
open PySem PySem.Spec PyProof.Rows L2 Rt
section
variable {K : PySem.W.Frag} {Z Z' H H' : Hp} {b : Bad} {F fv : List Addr} {es ts : List Ent} {is : List Nat} {v : V} {r : Sl}
end
end Mi
namespace Mi
open PySem PySem.Spec PyProof.Rows L2 Rt
section
variable {X : Cx} {W : WX} {is : List Nat} {b : Bad} {fe : FE} {ft : FT} {e : Expr} {σ : L2.St} {Z Z' H H' : Hp} {es ts : List Ent} {K : PySem.W.Frag} {F : List Addr}
theorem Sat.same (s : Sat K Z H es []) (st : Step Z H [] Z' H' []) (su : SubM K Z' H') : Sat K Z' H' es [] ∧ Step Z H (fpsOf es) Z' H' (fpsOf es) := by
  have n : New K Z H Z' H' .non (.fz .non) [] := ⟨st, su, ⟨.non, rfl, .leaf .non, rfl⟩, by simp, fun a m => by cases m⟩
  obtain ⟨h1, h2⟩ := s.new n
  rw [List.append_nil] at h2
  exact ⟨h1.bare, h2.less fun a m => fps_app.mpr (.inl m)⟩
end
end Mi
namespace Mi
open PySem PySem.Spec PyProof.Rows L2 Rt
section
variable {K : PySem.W.Frag} {Z Z' H H' : Hp} {es ts : List Ent}
end
end Mi
namespace Mi
open PySem PySem.Spec PyProof.Rows L2 Rt
section
variable {K : PySem.W.Frag} {E : EW} {σ : L2.St} {Z H : Hp} {fa : FE} {R : It → Hp → Prop}
end
section
variable {K : PySem.W.Frag}
end
end Mi
namespace Mi
open PySem PySem.Spec PyProof.Rows L2 Rt LiI
section
variable {X : Cx} {e : Expr} {te : TE} {p apos cpos pos : Pos}
end
section
variable {K : PySem.W.Frag} {E : EW} {σ : L2.St} {Z H : Hp} {fe : FE} {Q : VK}
end
end Mi
namespace Mi
open PySem PySem.Spec PyProof.Rows L2 Rt
section
variable {K : PySem.W.Frag}
end
end Mi
namespace PySem
namespace HandSPX
open Builtin Builtin.ObjectAttr
section
variable {M : Model} {A : Around} {E : Value → Shared → Prop} {h : Heap} {g : Array GenState} {d : Drawn} {t : Nat} {os : OsState}
variable {nm q : Str} {C N : Addr} {bs bm bmB : List Value} {hdct : Bool} {sn : List Str} {sub : List Value} {ab : Bool} {col : Option Bool} {dd : Option Addr} {k0 k1 k2 k3 k5 : Option Value} {B newId initId : String}
theorem check_new_ownK (F : ExcBaseFacts B newId initId bmB) (hT : bm.contains (.type B) = true ∧ bm.contains (.type "AttributeError") = false ∧ bm.contains (.type "NameError") = false) {rest : List Value} {kw : List (Str × Value)} {Q : Unit → Shared → Prop}
    (hC : h.get? C = some (excClassObj nm q C N bs bm hdct sn sub ab col dd k0 k1 k2 k3 k5 newId)) (hq : Q () ⟨h, g, d, t, os⟩) : wpAny M A (checkBuiltinCall newId ⟨.ref C :: rest, kw⟩) Q E ⟨h, g, d, t, os⟩ := by
  have hcont : (Value.ref C :: bm).contains (.type B) = true := by rw [List.contains_cons, hT.1, Bool.or_true]
  have hstar := F.noStar
  simp only [checkBuiltinCall, F.newKind, F.newSplit, F.newRow]
  repeat (first | refine wpAny_loadPart_at hC ?_ | (refine wpAny_isSubtype_exc hC ?_; rw [hcont]) | refine wpAny_staticBase_exc hC ?_ | refine wpAny_madeBy_exc hC ?_ | simp only [bne_self_eq_false, Bool.false_eq_true, if_false] | wp_step)
  exact hq
end
section
variable {prog : Program} {w : World} {A : Around} {E : Value → Shared → Prop} {R : Result → Shared → Prop} {h : Heap} {g : Array GenState} {d : Drawn} {t : Nat} {os : OsState}
variable {nm q : Str} {C N : Addr} {bs bm bmB : List Value} {hdct : Bool} {sn : List Str} {sub : List Value} {ab : Bool} {col : Option Bool} {dd : Option Addr} {k0 k1 k2 k3 k5 : Option Value} {B newId initId : String}
theorem new_ownK (F : ExcBaseFacts B newId initId bmB) (hT : bm.contains (.type B) = true ∧ bm.contains (.type "AttributeError") = false ∧ bm.contains (.type "NameError") = false) {rest : List Value} {kw : List (Str × Value)}
    (hC : h.get? C = some (excClassObj nm q C N bs bm hdct sn sub ab col dd k0 k1 k2 k3 k5 newId))
    (hq : R (.ok (.ret (.ref (h.objs.size + 1)))) ⟨(h.push { cls := .type "tuple", data := .seq rest.toArray }).push
      { cls := .ref C, data := .fields #[.ref h.objs.size, .none, .none, .none, .bool false, .none] }, g, d, t, os⟩) (hrest : rest.length ≤ sizeLine) :
    codeAny (model prog w) A (.builtin newId ⟨.ref C :: rest, kw⟩) R ⟨h, g, d, t, os⟩ := by
  have hends := F.ends
  have hcB : (Value.ref C :: bm).contains (.type B) = true := by rw [List.contains_cons, hT.1, Bool.or_true]
  have hcA : (Value.ref C :: bm).contains (.type "AttributeError") = false := by rw [List.contains_cons, hT.2.1]; rfl
  have hcN : (Value.ref C :: bm).contains (.type "NameError") = false := by rw [List.contains_cons, hT.2.2]; rfl
  refine codeAny_builtinAt F.entry ?_
  unfold Builtin.«BaseException.__new__»
  refine wpAt_bind ?_
  show wpAt _ _ _ (stack >>= _) _ _ _
  refine wpAt_bind (wpAt_stack fun p below => wpAt_of_wpAny ?_)
  wp_walk
  refine wpAt_of_wpAny ?_
  rw [F.owner]
  repeat (first | with_reducible refine wpAny_madeHere_exc F.canon hC ?_ | with_reducible refine wpAny_loadPart_at hC ?_ | (with_reducible refine wpAny_isSubtype_exc hC ?_; first | rw [hcB] | rw [hcA] | rw [hcN]) | wp_step)
  show R _ _
  rw [Heap.size_push]
  exact hq
theorem check_callK {M : Model} {rest : List Value} {kw : List (Str × Value)} {Q : Unit → Shared → Prop} {E : Value → Shared → Prop} (hC : h.get? C = some (excClassObj nm q C N bs bm hdct sn sub ab col dd k0 k1 k2 k3 k5 newId))
    (hq : Q () ⟨h, g, d, t, os⟩) : wpAny M A (checkBuiltinCall "type.__call__" ⟨.ref C :: rest, kw⟩) Q E ⟨h, g, d, t, os⟩ := by
  have f3 := tc_sub
  have hT : (⟨h, g, d, t, os⟩ : Shared).TypeIs (.ref C) "type" := ⟨_, hC, rfl⟩
  simp only [checkBuiltinCall, tc_kind, tc_split]
  repeat (any_goals (first | assumption | with_reducible refine wpAny_loadPart_at hC ?_ | with_reducible refine wpAny_onRaise ?_ | with_reducible refine wpAny_map ?_ | wp_step))
theorem type_call_ownK (F : ExcBaseFacts B newId initId bmB) (hT : bm.contains (.type B) = true ∧ bm.contains (.type "AttributeError") = false ∧ bm.contains (.type "NameError") = false) {rest : List Value} {kw : List (Str × Value)} {fI : Addr} {Q : Fin → Shared → Prop}
    (hC : h.get? C = some (excClassObj nm q C N bs bm hdct sn sub ab col dd k0 k1 k2 k3 k5 newId))
    (hi : W.Looks (model prog w) h (typeLookup (.ref C) "__init__") (some (.ref fI))) (hb : ∀ self, W.Looks (model prog w) h (bindSpecial (.ref fI) self) (.ref fI, [self])) (hrest : rest.length ≤ sizeLine)
    (hq : codeAny (model prog w) A (.call (.ref fI) ⟨.ref (h.objs.size + 1) :: rest, kw⟩)
      (fun r s' => match r with | .ok (.ret v) => v = .none ∧ Q (.done (.ret (.ref (h.objs.size + 1)))) s' | .ok _ => False | .error e => E e s')
      ⟨(h.push (W.kdv_tup rest)).push (excO C h.objs.size), g, d, t, os⟩) :
    wpAny (model prog w) A (Builtin.«type.__call__» ⟨.ref C :: rest, kw⟩) Q E ⟨h, g, d, t, os⟩ := by
  repeat (first | with_reducible refine wpAny_loadPart_at hC ?_ | with_reducible refine wpAny_madeBy_exc hC ?_ | wp_step)
  refine codeAny_call_builtin_code (Code.quiet_builtin _ F.quiet) (check_new_ownK F hT hC ?_)
  refine new_ownK F hT hC ?_ hrest
  show wpAny _ _ _ _ _ _
  have k : ∀ b o, h.get? b = some o → ((h.push (W.kdv_tup rest)).push (excO C h.objs.size)).get? b = some o := fun b o e => Heap.get?_push_of_some _ (Heap.get?_push_of_some _ e)
  have hC₁ := k _ _ hC
  have hget : ((h.push (W.kdv_tup rest)).push (excO C h.objs.size)).get? (h.objs.size + 1) = some (excO C h.objs.size) := by heap_get
  have hcC : (Value.ref C :: bm).contains (.ref C) = true := by simp
  have i1 := hi.keeps k
  have b1 := (hb (.ref (h.objs.size + 1))).keeps k
  unfold isInstance
  repeat (first | with_reducible refine wpAny_loadPart_at hget ?_ | (with_reducible refine wpAny_isSubtype_exc hC₁ ?_; rw [hcC]) | wp_step)
  show wpAny _ _ (typeLookup (.ref C) _) _ _ _
  refine i1.at ?_
  refine wpAny_holding (wpAny_bind (b1.at ?_))
  refine wpAny_bind (wpAny_call (codeAny_mono hq fun r s' z => ?_))
  rcases r with e | (v | _ | _ | _) <;> first | exact z | exact z.elim | skip
  obtain ⟨rfl, z⟩ := z
  first
    | exact wpAny_pure (wpAny_pure z)
    | (wp_walk; exact z)
theorem call_ownK (F : ExcBaseFacts B newId initId bmB) (hT : bm.contains (.type B) = true ∧ bm.contains (.type "AttributeError") = false ∧ bm.contains (.type "NameError") = false) {rest : List Value} {kw : List (Str × Value)} {fI : Addr}
    (hC : h.get? C = some (excClassObj nm q C N bs bm hdct sn sub ab col dd k0 k1 k2 k3 k5 newId))
    (hi : W.Looks (model prog w) h (typeLookup (.ref C) "__init__") (some (.ref fI))) (hb : ∀ self, W.Looks (model prog w) h (bindSpecial (.ref fI) self) (.ref fI, [self])) (hrest : rest.length ≤ sizeLine)
    (hq : codeAny (model prog w) (A.under (.builtin "type.__call__" ⟨.ref C :: rest, kw⟩)) (.call (.ref fI) ⟨.ref (h.objs.size + 1) :: rest, kw⟩) (W.InitBack (h.objs.size + 1) R)
      ⟨(h.push (W.kdv_tup rest)).push (excO C h.objs.size), g, d, t, os⟩) :
    codeAny (model prog w) A (.call (.ref C) ⟨rest, kw⟩) R ⟨h, g, d, t, os⟩ := by
  have f1 := tc_lookup
  have f2 := tc_bind (.ref C)
  have hTy : (⟨h, g, d, t, os⟩ : Shared).TypeIs (.ref C) "type" := ⟨_, hC, rfl⟩
  refine codeAny_of_tree ?_
  show wpAny _ _ (callAny (.ref C) _) _ _ _
  repeat (any_goals (first | assumption | with_reducible refine wpAny_loadPart_at hC ?_ | wp_step))
  refine ⟨rfl, ?_⟩
  refine codeAny_call_builtin_at (Code.quiet_builtin _ (by decide +kernel)) entry_typeCall (check_callK hC (type_call_ownK F hT hC hi hb hrest ?_))
  refine codeAny_mono hq fun r s' z => ?_
  rcases r with e | (v | _ | _ | _) <;> exact z
end
/-- T.__init__ of one of Python's own errors, by its rows -/
structure IniF (B ini : String) : Prop where
  init : Slot B "__init__" ini
  initEntry : entryFor table ini = some Builtin.«BaseException.__init__»
  initSplit : splitId ini = some (B, "__init__")
  initKind : builtinKind ini = some .slot
  initRow : Manifest.signature? ini = some ⟨.positional, "*", B, .self, [⟨"args", .varPos, false⟩]⟩
  noStar : (B != "*") = true
section
variable {prog : Program} {w : World} {M : Model} {A : Around} {E : Value → Shared → Prop} {R : Result → Shared → Prop} {h : Heap} {g : Array GenState} {d : Drawn} {t : Nat} {os : OsState}
variable {nm q : Str} {C N : Addr} {bs bm : List Value} {hdct : Bool} {sn : List Str} {sub : List Value} {ab : Bool} {col : Option Bool} {dd : Option Addr} {k0 k1 k2 k3 k5 : Option Value} {B newId initId : String}
theorem check_init_ownK (F : IniF B initId) (hT : bm.contains (.type B) = true) {e : Addr} {oe : Obj} {rest : List Value} {Q : Unit → Shared → Prop}
    (hC : h.get? C = some (excClassObj nm q C N bs bm hdct sn sub ab col dd k0 k1 k2 k3 k5 newId)) (he : h.get? e = some oe) (hcls : oe.cls = .ref C) (hq : Q () ⟨h, g, d, t, os⟩) :
    wpAny M A (checkBuiltinCall initId ⟨.ref e :: rest, []⟩) Q E ⟨h, g, d, t, os⟩ := by
  have hcB : (Value.ref C :: bm).contains (.type B) = true := by rw [List.contains_cons, hT, Bool.or_true]
  have hshort := F.noStar
  simp only [checkBuiltinCall, F.initKind, F.initSplit, F.initRow]
  repeat (first | (with_reducible refine wpAny_loadPart_at he ?_; rw [hcls]) | with_reducible refine wpAny_loadPart_at hC ?_ | (with_reducible refine wpAny_isSubtype_exc hC ?_; rw [hcB]) | wp_step)
  refine wpAny_onRaise ?_
  rw [show ∀ (a b : String) (n : Nat), Bind.check ⟨.positional, "*", B, .self, [⟨"args", .varPos, false⟩]⟩ a b n (List.map (fun x => x.fst) ({ pos := Value.ref e :: rest } : Args).kw) = pure () from
    fun a b n => check_star_args _ _ _ _ _ _]
  exact wpAny_pure hq
theorem init_baseK (F : IniF B initId) (hT : bm.contains (.type B) = true) {e t0 : Addr} {rest : List Value}
    (hC : h.get? C = some (excClassObj nm q C N bs bm hdct sn sub ab col dd k0 k1 k2 k3 k5 newId)) (he : h.get? e = some (excO C t0)) (hrest : rest.length ≤ sizeLine)
    (hq : ∀ h' t1, (∀ b o, b ≠ e → h.get? b = some o → h'.get? b = some o) → h'.get? e = some (excO C t1) → R (.ok (.ret .none)) ⟨h', g, d, t, os⟩) :
    codeAny (model prog w) A (.call (.builtin initId) ⟨.ref e :: rest, []⟩) R ⟨h, g, d, t, os⟩ := by
  refine codeAny_call_builtin F.init.plain F.initEntry (check_init_ownK F hT hC he rfl ?_)
  wp_walk
  refine hq _ h.objs.size (fun b o hb ho => ?_) ?_
  · rw [Heap.get?_update_other _ _ (Ne.symm hb)]
    exact Heap.get?_push_of_some _ ho
  · rw [Heap.get?_update_self _ (Heap.get?_push_of_some _ he) rfl]
    rfl
end
theorem ini_Key : IniF "KeyError" "KeyError.__init__" where
  init := .of (owner := "KeyError") (n := "__init__") (by rw [typeLookup_type, builtinLookup_eq_fast]; kernel_rfl) (by decide +kernel) (by decide +kernel) (by decide +kernel)
    (by first | exact .inl (by decide +kernel) | exact .inr (by decide +kernel)) (by rw [isSubtype_type]; kernel_rfl)
  initEntry := entryFor_alias (id' := "BaseException.__init__") (by kernel_rfl) (by first | rfl | decide +kernel) (by decide +kernel) (by kernel_rfl)
  initSplit := by kernel_rfl
  initKind := by kernel_rfl
  initRow := by kernel_rfl
  noStar := by decide +kernel
end HandSPX
end PySem
namespace PySem
theorem store_KeyError : StoreFacts "KeyError" [.type "KeyError", .type "LookupError", .type "Exception", .type "BaseException", .type "object"] "object.__setattr__" "object" where
  mro := by kernel_rfl
  slot := .of (owner := "object") (n := "__setattr__") (by rw [typeLookup_type, builtinLookup_eq_fast]; kernel_rfl) (by decide +kernel) (by decide +kernel) (by decide +kernel)
    (by first | exact .inl (by decide +kernel) | exact .inr (by decide +kernel)) (by rw [isSubtype_type]; kernel_rfl)
  entry := F.store_IndexError.entry
  kind := by decide +kernel
  split := by decide +kernel
  hasOwner := by decide +kernel
  args := fun a b c => by unfold argsOk; kernel_rfl
  passes := fun self => by kernel_rfl
end PySem
namespace Mi
open PySem PySem.Spec PyProof.Rows L2 Rt
/-- one of Python's errors, as what stands above an own one; also KeyError, whose own __new__ is another's -/
structure XB2 (T nw ini : String) (tl : List Value) : Prop where
  call : ∀ {prog : Program} {w : World} {A : Around} {R : Result → Shared → Prop} {h : Heap} {g : Array GenState} {d : Drawn} {t : Nat} {os : OsState} {nm q : Str} {C N : Addr} {bs bm : List Value} {hdct : Bool} {sn : List Str} {sub : List Value} {ab : Bool} {col : Option Bool} {dd : Option Addr} {k0 k1 k2 k3 k5 : Option Value} {rest : List Value} {kw : List (Str × Value)} {fI : Addr},
    (∀ X : String, bm.contains (.type X) = tl.contains (.type X)) → h.get? C = some (excClassObj nm q C N bs bm hdct sn sub ab col dd k0 k1 k2 k3 k5 nw) → PySem.W.Looks (model prog w) h (typeLookup (.ref C) "__init__") (some (.ref fI)) →
    (∀ self, PySem.W.Looks (model prog w) h (bindSpecial (.ref fI) self) (.ref fI, [self])) → rest.length ≤ sizeLine →
    codeAny (model prog w) (A.under (.builtin "type.__call__" ⟨.ref C :: rest, kw⟩)) (.call (.ref fI) ⟨.ref (h.objs.size + 1) :: rest, kw⟩) (PySem.W.InitBack (h.objs.size + 1) R) ⟨(h.push (PySem.W.kdv_tup rest)).push (PySem.HandSPX.excO C h.objs.size), g, d, t, os⟩ →
    codeAny (model prog w) A (.call (.ref C) ⟨rest, kw⟩) R ⟨h, g, d, t, os⟩
  init : ∀ {prog : Program} {w : World} {A : Around} {R : Result → Shared → Prop} {h : Heap} {g : Array GenState} {d : Drawn} {t : Nat} {os : OsState} {nm q : Str} {C N : Addr} {bs bm : List Value} {hdct : Bool} {sn : List Str} {sub : List Value} {ab : Bool} {col : Option Bool} {dd : Option Addr} {k0 k1 k2 k3 k5 : Option Value} {e t0 : Addr} {rest : List Value},
    (∀ X : String, bm.contains (.type X) = tl.contains (.type X)) → h.get? C = some (excClassObj nm q C N bs bm hdct sn sub ab col dd k0 k1 k2 k3 k5 nw) → h.get? e = some (PySem.HandSPX.excO C t0) → rest.length ≤ sizeLine →
    (∀ h' t1, (∀ b o, b ≠ e → h.get? b = some o → h'.get? b = some o) → h'.get? e = some (PySem.HandSPX.excO C t1) → R (.ok (.ret .none)) ⟨h', g, d, t, os⟩) →
    codeAny (model prog w) A (.call (.builtin ini) ⟨.ref e :: rest, []⟩) R ⟨h, g, d, t, os⟩
  store : StoreFacts T tl "object.__setattr__" "object"
theorem xb2_Key : XB2 "KeyError" "LookupError.__new__" "KeyError.__init__" tl_Key where
  call := fun hT hC hi hb hl hq => PySem.HandSPX.call_ownK PySem.F.excBase_LookupError ⟨by rw [hT]; decide +kernel, by rw [hT]; decide +kernel, by rw [hT]; decide +kernel⟩ hC hi hb hl hq
  init := fun hT hC he hl hq => PySem.HandSPX.init_baseK PySem.HandSPX.ini_Key (by rw [hT]; decide +kernel) hC he hl hq
  store := PySem.store_KeyError
theorem vv_Key (K : PySem.W.Frag) : PySem.W.findCls K (.type "KeyError") (.type "type") "__init__" = some (.val (.builtin "KeyError.__init__")) := by kernel_rfl
theorem tt_Key : typeOf (.type "KeyError") = pure (.type "type") := by kernel_rfl
theorem bb_Key : bootBuiltins "KeyError" = some (.type "KeyError") := by decide +kernel
section
variable {X : Cx} {pins : List (Addr × Obj)} {σ : L2.St} {H : Hp} {s : Shared} {a C : Addr} {f : Str} {y : V} {u : Value} {E : Value → Shared → Prop} {A : Around} {T nw ini : String} {tl : List Value}
theorem first_field2 {prog : Program} {w : World} {R : Result → Shared → Prop} {hp : Heap} {g : Array GenState} {dr : Drawn} {t : Nat} {os : OsState} {K : PySem.W.Frag} {name : Str} {tk : Tok} {v : Value} {x t1 : Addr} (B : XB2 T nw ini tl) (O : XCls K nw tl C) (kin : K.In hp)
    (hx : hp.get? x = some (PySem.HandSPX.excO C t1)) (no : PySem.W.takerIn K C name = some none)
    (k : ∀ h' tk', (∀ b o, b ≠ x → hp.get? b = some o → h'.get? b = some o) → x ≠ hp.objs.size → h'.get? x = some { cls := .ref C, dict := some hp.objs.size, data := .fields #[.ref t1, .none, .none, .none, .bool false, .none] } →
      h'.Ns1 hp.objs.size (fun z => if z = name then some v else none) → R (.ok (.ret .none)) ⟨h', g, dr, tk', os⟩) :
    codeAny (model prog w) A (.call (.builtin "object.__setattr__") ⟨[.ref x, .str name tk, v], []⟩) R ⟨hp, g, dr, t, os⟩ := by
  refine PySem.W.osa_openX (od := none) B.store kin ⟨hx, rfl, rfl, trivial⟩ O.ov no fun _ => ?_
  obtain ⟨cd, hc, hd⟩ := PySem.W.any_some O.hd
  have lk := PySem.W.looks_clsIn (M := model prog w) kin hc
  have nx : x ≠ hp.objs.size := Nat.ne_of_lt (Heap.lt_size hx)
  have hx1 : (hp.push (PySem.W.dictOf [] 0)).get? x = some (PySem.HandSPX.excO C t1) := Heap.get?_push_of_some _ hx
  refine wpAny_bind (wpAny_pure (wpAny_bind (PySem.W.instanceDict_exc hx lk hd ?_)))
  refine PySem.HandSPX.store_in_new ?_ fun h' tk' hn hs => k h' tk' (fun b o nb hb => ?_) nx ?_ hn
  · exact ⟨_, #[], _, (Heap.get?_update_ne _ _ _ _ nx.symm).trans (Heap.get?_push_at rfl rfl), rfl, fun e he => absurd he (by simp), fun _ => rfl⟩
  · have nz : b ≠ hp.objs.size := Nat.ne_of_lt (Heap.lt_size hb)
    rw [hs.2 b nz, Heap.get?_update_ne _ _ _ _ nb]
    exact Heap.get?_push_of_some _ hb
  · rw [hs.2 x nx]
    exact Heap.get?_update_self _ hx1 rfl
end
section
variable {X : Cx} {pins : List (Addr × Obj)} {σ : L2.St} {H : Hp} {s : Shared} {a C : Addr} {f : Str} {y : V} {u : Value} {A : Around} {T nw ini : String} {tl : List Value}
theorem put_field2 {Q : Unit → Shared → Prop} {E : Value → Shared → Prop} (B : XB2 T nw ini tl) (O : XCls X.K nw tl C) (I : Inv X pins σ H s) (e : H a = some (exo a C none)) (no : PySem.W.takerIn X.K C f = some none) (r : RelV y u)
    (k : ∀ dx s', H dx = none → dx ≠ a → Inv X pins σ (upd (upd H dx (exd dx [(f, y)])) a (exo a C (some dx))) s' → Q () s') : wpAny (model X.prog X.w) A (setAttr (.ref a) f u) Q E s := by
  obtain ⟨t1, ho⟩ := exo_at I.hok e
  obtain ⟨hp, g, dr, tk, os⟩ := s
  refine PySem.W.set_plain I.kIn (od := none) ⟨ho, rfl, rfl, trivial⟩ O.sa ?_
  refine first_field2 B O I.kIn ho no fun h' tk' kp na hx hn => ?_
  have new : H hp.objs.size = none := I.hok.fresh (Nat.le_refl _)
  have old : ∀ {b : Addr} {o : Obj}, hp.get? b = some o → b ≠ hp.objs.size := fun q => Nat.ne_of_lt (Heap.lt_size q)
  have nn : ∀ {b : Addr}, H b = none → b ≠ a := fun n z => by subst z; rw [e] at n; cases n
  have tr : ∀ {b : Addr} {o : HO}, o ≠ exo a C none → H b = some o → (upd (upd H hp.objs.size (exd hp.objs.size [(f, y)])) a (exo a C (some hp.objs.size))) b = some o := fun {b o} d q => by
    have : b ≠ a := fun z => by subst z; rw [e] at q; exact d (Option.some.inj q).symm
    rw [upd_ne this, upd_ne (ne_of_none q new)]; exact q
  refine k hp.objs.size _ new na.symm (I.un (t' := tk') ?_ fun b o q => ?_)
  · constructor
    · exact fun b o q n _ _ => kp b o (nn n) q
    · exact fun b o q n _ _ => ⟨o.slots, kp b o (nn n) q⟩
    · exact fun b o q n _ => by rw [upd_ne (nn n), upd_ne (old q)]; exact n
    · intro b o q _
      by_cases z : b = a
      · subst z; exact ⟨_, hx⟩
      · exact ⟨o, kp b o z q⟩
    · exact fun b xs q => tr (fun z => exo_tup z.symm) q
    · exact fun b o v q => tr (fun z => exo_frz z.symm) q
    · exact fun b ps q => ⟨#[], by rw [tr (fun z => exo_tbl z.symm) q]; simp⟩
  · by_cases z : b = a
    · subst z
      rw [upd_same] at q; cases q
      exact exo_ok hx
    · rw [upd_ne z] at q
      by_cases zd : b = hp.objs.size
      · subst zd
        rw [upd_same] at q; cases q
        exact exd_ok hn (relO_put (fs := []) r fun _ => True.intro)
      · rw [upd_ne zd] at q
        refine (I.hok b o q).stay (fun c v hc w => kp c v ?_ w) (fun c hc => tr (fun z => exo_own z.symm) hc) (fun c xs hc => tr (fun z => exo_tup z.symm) hc)
        rcases hc with hc | hc
        · rw [hc]; exact z
        · exact at_ne e hc exo_own
theorem base_init2 {us : List Value} {Q : Value → Shared → Prop} {E : Value → Shared → Prop} (B : XB2 T nw ini tl) (O : XCls X.K nw tl C) (I : Inv X pins σ H s) (e : H a = some (exo a C none)) (hl : us.length ≤ sizeLine) (k : ∀ s', Inv X pins σ H s' → Q .none s') :
    wpAny (model X.prog X.w) A (call (.builtin ini) (.ref a :: us)) Q E s := by
  obtain ⟨nm, N, qn, bs, bm, hdct, sn, sub, ab, col, dd, k0, k1, k2, k3, k5, hC, hT⟩ := O.at_ I.kIn
  obtain ⟨t1, ho⟩ := exo_at I.hok e
  obtain ⟨hp, g, dr, tk, os⟩ := s
  refine wpAny_call (B.init hT hC ho hl fun h' t2 kp hx => ?_)
  have J := I.write (t' := tk) (x := a) (e := a) (o := exo a C none) (by rw [e]; trivial) (.inl rfl) kp ⟨_, hx⟩ (exo_ok hx)
  have eu : upd H a (exo a C none) = H := funext fun b => by
    by_cases z : b = a
    · subst z; rw [upd_same, e]
    · rw [upd_ne z]
  exact k _ (eu ▸ J)
end
section
variable {X : Cx} {T nw ini : String} {tl : List Value} {o e : Expr} {es : List Expr} {te to : TE} {ta : TA} {f x : Str} {p p' p1 p2 pos : Pos}
theorem pe_ini2 {pl : Sem Bool} (B : XB2 T nw ini tl) (hg : Gl X x) (hm : X.mg x = none) (hb : bootBuiltins x = some (.type T)) (hn : x ≠ "__name__") (hdb : (x == ("__debug__" : Str)) = false) (ty : typeOf (.type T) = pure (.type "type")) (stub : Manifest.isStub T = false)
    (vV : PySem.W.findCls X.K (.type T) (.type "type") "__init__" = some (.val (.builtin ini))) (hh : PySem.W.handedIn (.builtin ini) = true) (ha : PA X (e :: es) ta)
    (hc : eval (.Call (.Attribute (.Name x p1) "__init__" p2) (e :: es) [] pos) X.env = (do
      let ov ← eval (.Name x p1) X.env
      standAt p2.atName
      let (f, first) ← holding [ov] (getMethod ov "__init__" pl)
      callWith pos f first (backTo pos (starEach (e :: es) X.env)) (backToKw pos (keywordEach [] X.env))) := by rfl)
    (he : starEach (e :: es) X.env = (false, eval e X.env) :: starEach es X.env := by rfl) (hpl : (backTo pos (starEach es X.env)).any (·.1) = false := by rfl) :
    PE X (.Call (.Attribute (.Name x p1) "__init__" p2) (e :: es) [] pos) (tIni X.K nw tl ta) := by
  refine ⟨fun pins s σ H Q I h => PySem.W.methodCall_KW (ld_blt I hg hm hb ?_ hn hdb) hc⟩
  obtain ⟨m, fr⟩ := I.fr
  refine PySem.W.method_type fr I.ok.mod.kin ty stub vV hh ?_
  show wpAny _ _ (callWith pos (Value.builtin ini) [] (backTo pos (starEach (e :: es) X.env)) []) _ _ _
  refine PyProof.Rows.callWith_method1 (thn (ha.run pos pins _ σ H _ (I.tok _) h) fun us s1 hs => ?_) he hpl
  obtain ⟨vs, H1, I1, r1, a, C, ws, ev, hl, O, ea, q⟩ := hs
  subst ev
  cases r1 with
  | @cons _ u0 _ ur ra rw' =>
    obtain rfl : u0 = Value.ref a := ra
    exact base_init2 B O I1 ea (by rw [← Paired.length rw', sizeLine_eq]; omega) fun s' J => ⟨.non, H1, J, rfl, q⟩
theorem ps_put2 (B : XB2 T nw ini tl) (ho : PE X o to) (he : PE X e te) (hs : swapsWith e (some (.Attribute o f p')) pos.line X.env = pure false := by rfl) : PS X (.Assign [.Attribute o f p'] e pos) (tPut X.K nw tl f to te) := by
  refine ⟨fun pins s σ H D I h => plainObj_wpAny_Assign_Attribute (thn (he.run pins s σ H _ I h) fun v s1 h1 => ?_) hs⟩
  obtain ⟨y, H1, I1, r1, q1⟩ := h1
  refine thn (ho.run pins s1 σ H1 _ I1 q1) fun u s2 h2 => ?_
  obtain ⟨x, H2, I2, r2, a, C, ex, O, no, ea, q⟩ := h2
  subst ex
  obtain rfl : u = Value.ref a := r2
  exact put_field2 B O I2 ea no r1 fun dx s' n ne J => ⟨σ, _, J, q dx n ne⟩
end
section
variable {X : Cx} {T nw ini : String} {tl : List Value} {e : Expr} {es : List Expr} {ta : TA} {f x : Str} {p pos : Pos} {C fI : Addr} {k : Nat} {fd : FuncData} {ps : List Str}
theorem pmk_x2 {CX : CXT} (B : XB2 T nw ini tl) (O : XCls X.K nw tl C) (no : PySem.W.takerIn X.K C f = some none) (iC : PySem.W.findIn X.K (.ref C) "__init__" = some (some (.ref fI))) (tI : PySem.W.typeIn X.K (.ref fI) = some (.type "function"))
    (F1 : FnOk X.prog X.w X.K X.mg X.base CX k fI fd ps (spIni X.K nw tl C f)) (hr : Room (k + 1) X.A) (hb : Binds X.K fd ps []) (hx : Passes CX X (fun _ _ _ => False)) (hg : Gl X x) (hm : X.mg x = some (.ref C)) (ha : PA X (e :: es) ta)
    (hdb : (x == ("__debug__" : Str)) = false := by decide) (he : starEach (e :: es) X.env = (false, eval e X.env) :: starEach es X.env := by rfl) (hpl : (backTo pos (starEach es X.env)).any (·.1) = false := by rfl) :
    PMk X (.Call (.Name x p) (e :: es) [] pos) (tMkX C f ta) := by
  intro pins s σ H Q I h
  refine wpAny_Call_Name_kw (ld_glob I hg hm ?_ hdb)
  refine PySem.W.callWith_K (h₀ := X.base) I.ok.mod.kin O.kC (thn (ha.run pos pins s σ H _ I h) fun us s1 hs => ?_) he hpl
  obtain ⟨vs, H1, I1, r1, y, ev, q⟩ := hs
  subst ev
  refine ⟨I1.kIn, ?_⟩
  show wpAny _ _ (call (.ref C) us) _ _ _
  obtain ⟨hp, g, dr, tk, os⟩ := s1
  obtain ⟨nm, N, qn, bs, bm, hdct, sn, sub, ab, col, dd, k0, k1, k2, k3, k5, hC, hT⟩ := O.at_ I1.kIn
  have lus : us.length = 1 := (Paired.length r1).symm
  -- where the new one comes to lie
  generalize ea : hp.objs.size + 1 = a
  have far : hp.objs.size ≤ a := by omega
  have none1 : H1 a = none := I1.hok.fresh far
  let hp2 := (hp.push (PySem.W.kdv_tup us)).push (PySem.HandSPX.excO C hp.objs.size)
  have grow : ∀ b o, hp.get? b = some o → hp2.get? b = some o := fun b o z => Heap.get?_push_of_some _ (Heap.get?_push_of_some _ z)
  have there : hp2.get? a = some (PySem.HandSPX.excO C hp.objs.size) := by
    subst ea
    show ((hp.push (PySem.W.kdv_tup us)).push (PySem.HandSPX.excO C hp.objs.size)).get? (hp.objs.size + 1) = _
    heap_get
  have I2 : Inv X pins σ (upd H1 a (exo a C none)) ⟨hp2, g, dr, tk, os⟩ := I1.laid (t' := tk) (a := a) (o := exo a C none) (h' := hp2) grow far (exo_ok there)
  have sp : spIni X.K nw tl C f [.ref a, y] (upd H1 a (exo a C none)) (fun v H2 => v = .non ∧ ∃ d, H1 d = none ∧ H2 a = some (exo a C (some d)) ∧ H2 d = some (exd d [(f, y)]) ∧ Q (.ref C) (some d) (upd (del H2 a) d (.xd [(f, y)]))) (fun _ _ _ => False) := by
    refine ⟨a, y, rfl, O, no, upd_same, fun dx n ne => ⟨rfl, dx, ?_, upd_same, ?_, ?_⟩⟩
    · rw [upd_ne ne] at n; exact n
    · rw [upd_ne ne, upd_same]
    · rw [upd_ne ne] at n
      have same : upd (del (upd (upd (upd H1 a (exo a C none)) dx (exd dx [(f, y)])) a (exo a C (some dx))) a) dx (.xd [(f, y)]) = upd H1 dx (.xd [(f, y)]) := funext fun b => by
        by_cases zd : b = dx
        · subst zd; rw [upd_same, upd_same]
        · rw [upd_ne zd, upd_ne zd]
          by_cases za : b = a
          · subst za; rw [del_same, none1]
          · rw [del_ne za, upd_ne za, upd_ne zd, upd_ne za]
      rw [same]
      exact q dx n
  have r2 : Vals [V.ref a, y] (Value.ref a :: us) := .cons rfl r1
  have len2 : (Value.ref a :: us).length = ps.length := by rw [← F1.len _ _ _ _ sp]; simp [lus]
  have bnd := hb ⟨hp2, g, dr, tk, os⟩ (Value.ref a :: us) I2.kIn (by rw [List.append_nil]; exact len2)
  rw [List.append_nil] at bnd
  subst ea
  refine wpAny_call (B.call hT hC (PySem.W.looks_findIn I1.kIn iC) (fun self => PySem.W.bind_fn I1.kIn self tI) (by rw [lus, sizeLine_eq]; omega) (codeAny_mono (F1.run _ X.stack _ _ ⟨Value.ref (hp.objs.size + 1) :: us, []⟩ (Value.ref (hp.objs.size + 1) :: us) _ _ (fun _ _ _ => False)
    (hr.make C us []) (I2.env0.make C us []) bnd r2 sp) fun r s' z => ?_))
  cases r with
  | error er => exact hx pins σ _ _ er s' I2 z
  | ok fl =>
    cases fl with
    | ret u =>
      obtain ⟨v, H2, os2, bare2, un2, hok2, rv, ev, d, hd1, ea2, ed2, q2⟩ := z
      subst ev
      obtain ⟨h2, g2, d2, t2, os'⟩ := s'
      exact ⟨rv, mk_end (raises_own O.exC O.tyC) I1 far grow un2 hok2 os2 bare2 ea2 ed2 hd1 q2⟩
    | next => exact False.elim z
    | brk => exact False.elim z
    | cont => exact False.elim z
end
section
variable {X : Cx} {T nw ini : String} {tl : List Value} {o e : Expr} {es : List Expr} {te to : TE} {ta : TA} {f x : Str} {p p' p1 p2 pos : Pos}
end
section
variable {X : Cx} {T nw ini : String} {tl : List Value} {e : Expr} {f f' x : Str} {p pos : Pos} {C fI : Addr} {k : Nat} {fd : FuncData} {ps : List Str} {kws : List Keyword} {tk : TA} {g : List Value → List Value → List Value} {gV : List V → List V → List V}
end
section
variable {X : Cx} {e : Expr} {t : L2.St → Hp → XK → Prop}
end
section
variable {K : PySem.W.Frag} {E : EW} {σ : L2.St} {H : Hp} {Q : VK} {c f : Str} {fe : FE}
end
end Mi
namespace Mi
open PySem PySem.Spec PyProof.Rows L2 Rt
section
variable {cs : List Str} {T : String} {op : D → List D → Option (D × D)} {n C : Str} {i j : Nat} {x d : D} {ss : List Sl} {c : Nat → Tg} {fs : List (Str × D)} {q : D × D}
end
section
variable {K : PySem.W.Frag} {E : EW} {σ : L2.St} {H : Hp} {Q : VK} {cs : List Str} {T : String} {r : V → List V → Hp → VK → Prop} {op : D → List D → Option (D × D)} {n : Str} {i j : Nat}
end
end Mi
namespace Mi
open PySem PySem.Spec PyProof.Rows L2 Rt
section
variable {cs : List Str} {n C : Str} {i j : Nat} {x d kk : D} {ss : List Sl} {c : Nat → Tg} {fs : List (Str × D)} {t : Tg}
end
section
variable {K : PySem.W.Frag} {E : EW} {kp : List Nat} {σ : L2.St} {H : Hp} {v : V} {cs : List Str} {n : Str} {i j : Nat}
end
end Mi
namespace Mi
open PySem PySem.Spec PyProof.Rows L2 Rt
section
variable {cs : List Str} {n C : Str} {i : Nat} {r : Sl} {d : D} {ss : List Sl} {c : Nat → Tg} {fs : List (Str × D)} {fe : FE} {t : Tg}
end
section
variable {K : PySem.W.Frag} {Z H : Hp} {es : List Ent} {e : Ent}
end
section
variable {K : PySem.W.Frag} {E : EW} {kp : List Nat} {σ : L2.St} {H : Hp} {De : Ends} {cs : List Str} {n : Str} {i : Nat} {fe : FE}
end
end Mi
namespace Mi
open PySem PySem.Spec PyProof.Rows L2 Rt
section
variable {K : PySem.W.Frag} {E : EW} {kp : List Nat} {σ : L2.St} {Z H Z' H' Z1 H1 : Hp} {F F1 F' : List Addr} {es ts : List Ent} {a : Addr} {gs : List (Key × V)} {De : Ends}
end
section
variable {ss : List Sl} {i j : Nat} {f : FS} {kvs : List (Key × D)} {d : D}
end
end Mi
namespace Mi
open PySem PySem.Spec PyProof.Rows L2 Rt
section
variable {ss : List Sl} {i j k m : Nat} {c : Nat → Tg} {ds zs : List D} {x d : D} {fe : FE} {r : Sl} {o : Option Sl} {a b : Option (List D)} {n : Int} {t : Tg}
end
section
variable {K : PySem.W.Frag} {E : EW} {σ : L2.St} {Z Z' H H' : Hp} {Q : VK} {es ts : List Ent}
theorem RepL.len {P : Nat → V → D → List Addr → Prop} : ∀ {vs : List V} {ds : List D} {f : List Addr} {j : Nat}, RepL P j vs ds f → vs.length = ds.length
  | [], [], _, _, _ => rfl
  | _ :: vs, _ :: ds, _, _, ⟨_, _, _, h, _⟩ => by rw [List.length_cons, List.length_cons, RepL.len h]
  | [], _ :: _, _, _, h => by cases h
  | _ :: _, [], _, _, h => by cases h
end
end Mi
namespace PySem.W
open PySem PySem.Calls PyProof.Rows
section
variable {prog : Program} {w : World} {A : Around} {E : Value → Shared → Prop} {s : Shared} {κ : PyProof.Rows.KeyKind} {β : Type} {vs : List Value} {bs : List β} {R : Value → β → Prop} {enc : β → PyData}
end
end PySem.W
namespace Mi
open PySem PySem.Spec PyProof.Rows L2 Rt
section
variable {K : PySem.W.Frag} {Z H : Hp}
end
end Mi
namespace PySem.W
open PySem PySem.Calls PyProof.Rows
section
variable {prog : Program} {w : World} {A : Around} {E : Value → Shared → Prop} {s : Shared} {a kS : Addr} {b : Bool} {vs : List Value} {keys : Array Value} {e e1 : Nat} {P : PySem.Fin → Shared → Prop}
end
end PySem.W
namespace Mi
open PySem PySem.Spec PyProof.Rows L2 Rt PySem.Calls PySem.W
section
variable {X : Cx} {pins : List (Addr × Obj)} {σ : L2.St} {H : Hp} {s : Shared}
end
end Mi
namespace Mi
open PySem PySem.Spec PyProof.Rows L2 Rt NdefX
section
variable {X : Cx} {pins : List (Addr × Obj)} {σ : L2.St} {Z H : Hp} {s : Shared} {c P : Addr} {name : Str} {params : Arguments} {body : List Stmt} {scope : Scope} {pos : Pos} {m : Array Value}
end
section
variable {P : Program} {w : World} {K : PySem.W.Frag} {mg : Str → Option Value} {base : Heap} {N fr : List Str} {p : Str} {F : NF} {f : Addr} {k n np : Nat} {kp : List Nat} {c : FS}
end
section
variable {X : Cx} {iN iR k : Nat} {js : List Nat} {mk : Addr → NF} {m : Fm} {cl : List (Str × Addr)} {fr : List Str} {p nm rk : Str} {pp p1 p2 p3 pos : Pos}
end
end Mi
namespace Mi
open PySem PySem.Spec PyProof.Rows L2 Rt NdefX
section
variable {iN iR : Nat} {js : List Nat} {m : Fm} {ss : List Sl} {ds cs : List D} {ps : List PyData} {o : Option (List PyData)}
end
section
variable {K : PySem.W.Frag} {E : EW} {kp : List Nat} {σ : L2.St} {Z H : Hp} {De : Ends} {es : List Ent}
end
end Mi
namespace Mi
open PySem PySem.Spec PyProof.Rows L2 Rt NdefX
section
variable {X : Cx} {E : EW} {kp : List Nat}
end
end Mi
namespace L2
open PySem PySem.Spec PyProof.Rows
section
variable {X : Cx}
end
end L2
namespace Mi
open PySem PySem.Spec PyProof.Rows L2 Rt
section
variable {K : PySem.W.Frag}
end
end Mi
namespace Mi
open PySem PySem.Spec PyProof.Rows L2 Rt
section
variable {K : PySem.W.Frag} {E : EW} {kp : List Nat} {σ : L2.St} {Z H Z' H' Z1 H1 : Hp} {F F1 F' : List Addr} {es ts : List Ent} {a : Addr} {ws : List V} {De : Ends}
end
section
variable {ss : List Sl} {i j : Nat} {f : FS} {xs : List D} {d : D}
end
end Mi
namespace Mi
open PySem PySem.Spec PyProof.Rows L2 Rt
section
variable {K : PySem.W.Frag} {E : EW} {kp : List Nat} {σ σ1 : L2.St} {Z H Z1 H1 : Hp} {es us es1 : List Ent} {De : Ends} {Q : VK}
end
section
variable {as s1 rs ss : List Sl} {ds : List D} {ft : FA} {fe : FE} {is : List Nat} {c : Nat → Tg} {d : D} {i : Nat} {t : Tg} {j : Nat} {r : List Sl}
end
end Mi
namespace PySem.AutoSeq1
end PySem.AutoSeq1
namespace L2
open PySem PySem.Spec PyProof.Rows
section
variable {X : Cx}
end
end L2
namespace Mi
open PySem PySem.Spec PyProof.Rows L2 Rt
section
variable {K : PySem.W.Frag}
end
end Mi
namespace Mi
open PySem PySem.Spec PyProof.Rows L2 Rt PySem.Calls PySem.W
/-- what the key's calls leave: J0 ahead of the first, J j b kb behind item j, b the best so far, kb its key -/
structure KeyI (prog : Program) (w : World) (A : Around) (q : Value) (op : CmpOp) (S : Addr) (wr : List Addr) (G : Array GenState → Array GenState → Prop) (n : Nat) (P : Nat → Value → Prop) (St : Nat → Shared → Prop) (J0 : Shared → Prop) (J : Nat → Nat → Value → Shared → Prop) (bt : Nat → Nat → Bool) : Prop where
  keep0 : ∀ s1 s2, J0 s1 → Moved (S :: wr) G s1 s2 → J0 s2
  keep : ∀ j b kb s1 s2, J j b kb s1 → Moved (S :: wr) G s1 s2 → J j b kb s2
  first : ∀ v (s1 : Shared) (its : Array Value) (c : Nat) (QQ EE : Value → Shared → Prop), 0 < n → P 0 v → J0 s1 → St 1 s1 → s1.heap.get? S = some { cls := .type "list", dict := none, data := .seq its c, slots := #[] } →
    (∀ ky s2, J 0 0 ky s2 → St 1 s2 → s2.heap.get? S = some { cls := .type "list", dict := none, data := .seq its c, slots := #[] } → QQ ky s2) → wpAny (model prog w) A (call q [v]) QQ EE s1
  turn : ∀ j b kb v (s1 : Shared) (its : Array Value) (c : Nat) (QQ EE : Value → Shared → Prop), j + 1 < n → P (j + 1) v → J j b kb s1 → St (j + 2) s1 → s1.heap.get? S = some { cls := .type "list", dict := none, data := .seq its c, slots := #[] } →
    (∀ ky s2, St (j + 2) s2 → s2.heap.get? S = some { cls := .type "list", dict := none, data := .seq its c, slots := #[] } → (∀ (Q2 E2 : Value → Shared → Prop), Q2 (.bool (bt (j + 1) b)) s2 → wpAny (model prog w) A (richCompare op ky kb) Q2 E2 s2) →
      J (j + 1) (if bt (j + 1) b = true then j + 1 else b) (if bt (j + 1) b = true then ky else kb) s2 → QQ ky s2) → wpAny (model prog w) A (call q [v]) QQ EE s1
section
variable {prog : Program} {w : World} {A : Around} {R : Result → Shared → Prop} {I : Addr} {fp wr : List Addr} {G : Array GenState → Array GenState → Prop} {n : Nat} {P : Nat → Value → Prop} {St : Nat → Shared → Prop} {J0 : Shared → Prop} {J : Nat → Nat → Value → Shared → Prop} {bt : Nat → Nat → Bool} {q : Addr}
end
section
variable {prog : Program} {w : World} {A : Around} {R : Result → Shared → Prop} {I : Addr} {fp wr : List Addr} {G : Array GenState → Array GenState → Prop} {n : Nat} {P : Nat → Value → Prop} {St : Nat → Shared → Prop} {J0 : Shared → Prop} {J : Nat → Nat → Value → Shared → Prop} {bt : Nat → Nat → Bool} {q : Addr}
end
end Mi
namespace Mi
open PySem PySem.Spec PyProof.Rows L2 Rt PySem.Calls PySem.W
section
variable {X : Cx} {pins : List (Addr × Obj)} {σ : L2.St} {H : Hp} {s : Shared}
/-- iter(l), its items as they are tracked -/
structure IterE (X : Cx) (σ : L2.St) (l : Addr) (ys : List V) (Sq : Hp → Prop) : Prop where
  run : ∀ (A : Around) (pins : List (Addr × Obj)) (H : Hp) (s : Shared) (Q E : Value → Shared → Prop), L2.Inv X pins σ H s → Sq H → A.handled = none →
    (∀ (s2 : Shared) (ob : Obj) (St : Nat → Shared → Prop), s2 = { s with heap := s.heap.push ob } → WalksS X.prog X.w A s.heap.objs.size [s.heap.objs.size, l] [s.heap.objs.size] (fun a b => b = a) ys.length (fun i v => ∃ y, ys[i]? = some y ∧ RelV y v) St → St 0 s2 → l < s.heap.objs.size →
      (∀ i s3, St i s3 → ∃ o, s3.heap.get? s.heap.objs.size = some o ∧ ∀ v, o.data ≠ .cell v) →
      (∀ i pins3 H3 s3 s4, St i s3 → (∀ o, s3.heap.get? s.heap.objs.size = some o → s4.heap.get? s.heap.objs.size = some o) → L2.Inv X pins3 σ H3 s4 → Sq H3 → St i s4) → Q (.ref s.heap.objs.size) s2) →
    wpAny (model X.prog X.w) A (pyIter (.ref l)) Q E s
end
end Mi
namespace Mi
open PySem PySem.Spec PyProof.Rows L2 Rt NdefX PySem.Calls
section
variable {P : Program} {w : World} {K : PySem.W.Frag} {mg : Str → Option Value} {base : Heap} {N ps fr : List Str} {F : NF} {f : Addr} {k n np : Nat} {kp : List Nat} {H : Hp} {h : Heap} {e : Expr} {fe : FE} {p : Str}
end
section
variable {X : Cx} {pins : List (Addr × Obj)} {σ : L2.St} {Z H : Hp} {s : Shared} {c P : Addr} {params : Arguments} {e : Expr} {scope : Scope} {pos : Pos} {m : Array Value}
end
def SqA (K : PySem.W.Frag) (b : Bool) (H : Hp) (l : Addr) (ys : List V) : Prop := if b = true then SqL K H l ys else SqT K H l ys
section
variable {X : Cx} {js : List Nat} {mk : Addr → NF} {e : Expr} {m : Fm} {cl : List (Str × Addr)} {fr : List Str} {k : Nat} {pins : List (Addr × Obj)} {σ : L2.St} {H : Hp} {s : Shared}
end
end Mi
namespace Mi
open PySem PySem.Spec PyProof.Rows L2 Rt NdefX PySem.Calls
section
variable {X : Cx} {js : List Nat} {mk : Addr → NF} {e e1 : Expr} {m : Fm} {cl : List (Str × Addr)} {fr : List Str} {k iD : Nat} {te : TE} {P : Addr} {params : Arguments} {scope : Scope} {pp p1 p2 p3 p4 p5 pos : Pos} {nd : Str}
end
end Mi
namespace Mi
open PySem PySem.Spec PyProof.Rows L2 Rt NdefX PySem.Calls
section
variable {js : List Nat} {m : Fm} {fe : FE} {ss : List Sl} {r : Sl} {ds cs : List D} {ps : List PyData} {cm : PyData → PyData → Bool} {dfl : Option D} {d : D} {iD : Nat}
end
/-- a frozen list or tuple at its place -/
def ZSq (K : PySem.W.Frag) (b : Bool) (Z : Hp) (a : Addr) (ys : List V) : Prop := if b = true then Z a = some (.lst ys) else (Z a = some (.tup ys) ∨ (SqT K (fun _ => none) a ys ∨ TupX Z a ys))
section
variable {K : PySem.W.Frag} {Z Z' H : Hp} {b : Bool} {a : Addr} {ys : List V} {v : V}
theorem ZSq.mono (h : ZSq K b Z a ys) (l : Le Z Z') : ZSq K b Z' a ys := by
  unfold ZSq at h ⊢
  cases b with
  | true => rw [if_pos rfl] at h ⊢; exact l _ _ h
  | false => rw [if_neg (by decide)] at h ⊢; exact h.imp (l _ _) fun q => q.imp id (TupX.mono l)
theorem ZSq.sq (h : ZSq K b Z a ys) (s : SubM K Z H) : SqA K b H a ys := by
  unfold ZSq at h
  unfold SqA
  cases b with
  | true => rw [if_pos rfl] at h ⊢; exact .inl (s.toSub.rd h)
  | false =>
    rw [if_neg (by decide)] at h ⊢
    rcases h with h | h
    · exact .inl (s.toSub.rd h)
    · exact sqT_wr s.toSub h
end
section
variable {K : PySem.W.Frag} {E : EW} {σ : L2.St} {Z H : Hp} {es : List Ent} {js : List Nat} {m : Fm} {mk : Addr → NF} {e : Expr} {P : Addr} {cm : PyData → PyData → Bool}
end
end Mi
namespace Mi
open PySem PySem.Spec PyProof.Rows L2 Rt NdefX
section
variable {X : Cx} {E : EW} {d : He.Defn × Str} {k n np iD : Nat} {js kp2 : List Nat} {p nd : Str} {params : Arguments} {e e1 : Expr} {scope sc : Scope} {pos pp p1 p2 p3 p4 p5 : Pos} {N fr : List Str} {fe fb : FE}
end
end Mi
namespace Mi
open PySem PySem.Spec PyProof.Rows L2 Rt
section
variable {t u : Tg} {x y : Int} {a b : Str}
end
end Mi
namespace Mi
open PySem PySem.Spec PyProof.Rows L2 Rt
section
variable {nn : Nat} {K : PySem.W.Frag} {E : EW} {kp : List Nat} {σ : L2.St} {Z H Z' H' Z1 H1 : Hp} {F F1 F' : List Addr} {es ts : List Ent} {a : Addr} {ws : List V} {De : Ends}
end
section
variable {ss : List Sl} {i j : Nat} {f : FS} {xs : List D} {d : D}
end
end Mi
namespace Mi
open PySem PySem.Spec PyProof.Rows L2 Rt
section
variable {X : Cx} {body : List Stmt} {h₀ : ExceptHandler} {hds : List ExceptHandler} {pos : Pos} {tb : WX → TS}
end
section
variable {K : PySem.W.Frag} {E : EW} {kp : List Nat} {σ : L2.St} {Z H : Hp} {De : Ends} {f : FS}
end
section
variable {X : Cx}
end
end Mi
namespace Mi
open PySem PySem.Spec PyProof.Rows L2 Rt
section
variable {X : Cx} {x : Str} {d : Addr} {es : Array DictEntry} {n : Nat} {e : Expr} {p1 apos cpos : Pos} {ty : TE}
end
end Mi
namespace Mi
open PySem PySem.Spec PyProof.Rows L2 Rt
section
variable {X : Cx} {pins : List (Addr × Obj)} {σ : L2.St} {H : Hp} {s : Shared}
end
section
variable {X : Cx} {E : EW}
end
end Mi
namespace Mi
open PySem PySem.Spec PyProof.Rows L2 Rt
section
variable {K : PySem.W.Frag}
end
end Mi
namespace Mi
open PySem PySem.Spec PyProof.Rows L2 Rt
section
variable {X : Cx}
end
section
variable {K : PySem.W.Frag}
end
section
variable {t u : Tg} {a b : Bool} {i j : Int} {x : Str}
end
end Mi
namespace Mi
open PySem PySem.Spec PyProof.Rows L2 Rt
section
variable {K : PySem.W.Frag} {E : EW} {σ : L2.St} {Z H : Hp} {es : List Ent}
end
section
variable {r : Sl} {ss : List Sl} {t : Tg} {d : D} {xs : List D} {lo hi : Option Int}
end
end Mi
namespace Mi
open PySem PySem.Spec PyProof.Rows L2 Rt
section
variable {X : Cx}
end
section
variable {K : PySem.W.Frag}
end
section
variable {t u : Tg} {a b : Bool}
end
end Mi
namespace Mi
open PySem PySem.Spec PyProof.Rows L2 Rt
section
variable {K : PySem.W.Frag} {E : EW} {σ : L2.St} {Z H : Hp} {es ts : List Ent}
end
section
variable {X : Cx} {E : EW}
end
section
variable {K : PySem.W.Frag} {E : EW} {σ : L2.St} {Z Z' H H' : Hp} {Q : VK} {es ts : List Ent}
end
section
variable {ss : List Sl} {i m : Nat} {c : Nat → Tg} {ds zs : List D} {y : D}
end
end Mi
namespace Mi
open PySem PySem.Spec PyProof.Rows L2 Rt
section
variable {K : PySem.W.Frag} {E : EW} {σ : L2.St} {H : Hp} {Q : VK}
end
end Mi
namespace Mi
open PySem PySem.Spec PyProof.Rows L2 Rt
end Mi
namespace Mi
open PySem PySem.Spec PyProof.Rows L2 Rt
section
variable {X : Cx} {CX : CXT} {k : Nat} {f : Addr} {fd : FuncData} {ps : List Str} {sp : Sp} {dvs : List V} {ds : List Value} {E : L2.St → XK} {x : Str} {p pos : Pos} {e : Expr} {es : List Expr} {t : TA}
end
end Mi
namespace Mi
open PySem PySem.Spec PyProof.Rows L2 Rt
mutual
def wk : D → D
  | .tpx xs => .tup (wks xs)
  | .tpk xs => .tup (wks xs)
  | .tup xs => .tup (wks xs)
  | d => d
def wks : List D → List D
  | [] => []
  | d :: r => wk d :: wks r
end
section
variable {K : PySem.W.Frag} {Z : Hp}
theorem tpx_node {v : V} {ds : List D} (h : FRep K Z v (.tpx ds)) : ∃ a vs, v = .ref a ∧ FReps K Z vs ds ∧ TupX Z a vs := by
  obtain ⟨a, vs, h1, h2, h3⟩ := h.node_of (k := .tpx) (ds := ds) rfl
  rcases h3 with ⟨o, _, h4⟩ | q
  · exact (oview_tpx h4).elim
  · exact ⟨a, vs, h1, h2, q⟩
theorem tpk_node {v : V} {ds : List D} (h : FRep K Z v (.tpk ds)) : ∃ a vs, v = .ref a ∧ FReps K Z vs ds ∧ Z a = some (.tup vs) := by
  obtain ⟨a, vs, h1, h2, h3⟩ := h.node_of (k := .tpk) (ds := ds) rfl
  rcases h3 with ⟨o, _, h4⟩ | q
  · exact (oview_tpk h4).elim
  · exact ⟨a, vs, h1, h2, q⟩
mutual
theorem frep_wk : ∀ {v : V} (d : D), FRep K Z v d → FRep K Z v (wk d)
  | v, .tpx xs, h => by
    obtain ⟨a, vs, rfl, h2, q⟩ := tpx_node h
    exact .wr (k := .tup) (.inr q) rfl (freps_wk xs h2)
  | v, .tpk xs, h => by
    obtain ⟨a, vs, rfl, h2, q⟩ := tpk_node h
    exact .node q rfl rfl (freps_wk xs h2)
  | v, .tup xs, h => by
    obtain ⟨a, vs, h1, h2, h3⟩ := h.node_of (k := .tup) (ds := xs) rfl
    subst h1
    rcases h3 with ⟨o, z, q⟩ | q
    · exact .node z q rfl (freps_wk xs h2)
    · exact .wr q rfl (freps_wk xs h2)
  | _, .non, h => h
  | _, .bl _, h => h
  | _, .int _, h => h
  | _, .str _, h => h
  | _, .ty _, h => h
  | _, .obj _, h => h
  | _, .lst _, h => h
  | _, .dk _, h => h
  | _, .dt _, h => h
  | _, .ins _ _, h => h
  | _, .scr _, h => h
  | _, .err _ _, h => h
  | _, .fnv _ _ _ _ _, h => h
theorem freps_wk : ∀ {vs : List V} (ds : List D), FReps K Z vs ds → FReps K Z vs (wks ds)
  | _, [], .nil => .nil
  | _, d :: r, .cons h t => .cons (frep_wk d h) (freps_wk r t)
end
end
def kwk : Sl → List Sl → Ro (Sl × List Sl)
  | .fz d, ss => .ok (.fz (wk d), ss)
  | _, _ => .stuck
/-- seen as any tuple (what is frozen) -/
def fWk (fa : FE) : FE := fun ss => (fa ss).bind fun p => kwk p.1 p.2
section
variable {K : PySem.W.Frag} {E : EW} {σ : L2.St} {H : Hp} {Q : VK}
theorem re_wk {fa : FE} (h : RE K E (fWk fa) σ H Q) : RE K E fa σ H Q := by
  obtain ⟨Z, es, s, hv, k⟩ := h
  refine RE.next (ts := []) (n := fun p => kwk p.1 p.2) s hv (by rw [List.append_nil]; exact k) fun a Z1 H1 es1 v fp s1 hv1 k1 => ?_
  cases a with
  | un => exact k1.elim
  | ow t d => exact k1.elim
  | al i => exact k1.elim
  | fz d =>
    obtain ⟨x, q1, q2, q3⟩ := s1.ok ⟨some v, .fz d, fp⟩ (by simp)
    cases q1
    exact fin_same s1 hv1 k1 ⟨v, rfl, frep_wk d q2, rfl⟩
theorem cv_wk {X : Cx} {e : Expr} {fa : FE} (h : PE X e (RE X.K E fa)) : PE X e (RE X.K E (fWk fa)) := pe_mono h fun _ _ _ z => re_wk z
end
def rTupX (K : PySem.W.Frag) : List V → Hp → VK → Prop := fun xs H Q => ∃ p ys, xs = [.ref p] ∧ SqL K H p ys ∧ ∀ l b, H l = none → b.dict = none → Q (.ref l) (upd H l (.frz b (.tup ys)))
theorem call_tupX {X : Cx} : CallR X (.type "tuple") (rTupX X.K) := by
  intro pins s σ H xs us Q I r h
  obtain ⟨p, ys, rfl, hq, q⟩ := h
  obtain ⟨u, rfl, rx⟩ := vals1 r
  cases rx
  obtain ⟨its, r', pl, hz⟩ := I.list hq
  have hlen := r'.length
  refine call_tuple_list pl.isList (fun h' kp => ?_) (by simp only [List.size_toArray] <;> omega)
  have I1 : Inv X pins σ H { s with heap := h' } := I.kept (t' := s.toks) kp
  have I2 : Inv X pins σ (upd H h'.objs.size (.frz { cls := .type "tuple", data := .seq its.toArray } (.tup ys))) { s with heap := h'.push { cls := .type "tuple", data := .seq its.toArray } } :=
    I1.laid (t' := s.toks) (fun b o e => Heap.get?_push_of_some _ e) (Nat.le_refl _) (show ObjOk X.prog X.w _ _ _ (.frz _ (.tup ys)) from ⟨by simp [Heap.get?, Heap.push], hz, its, r', IsTup.new _ _⟩)
  exact ⟨.ref h'.objs.size, _, I2, rfl, q _ _ (I1.hok.fresh (Nat.le_refl _)) rfl⟩
def opTupX : List (Tg × D) → Option Sl
  | [(t, .lst ds)] => if t.flat = true then some (.fz (.tpx ds)) else none
  | _ => none
section
variable {K : PySem.W.Frag} {Z H : Hp}
theorem New.tpx {p : Addr} {b : Obj} {vs : List V} {ds : List D} (s : SubM K Z H) (np : H p = none) (hb : b.dict = none) (hs : FReps K Z vs ds) : New K Z H (upd Z p (.frz b (.tup vs))) (upd H p (.frz b (.tup vs))) (.ref p) (.fz (.tpx ds)) [] := by
  have le : Le Z (upd Z p (.frz b (.tup vs))) := fun a u e => by rw [upd_ne (ne_of_none e (s.zn np))]; exact e
  refine ⟨⟨fun a u e _ => by rw [upd_ne (ne_of_none e np)]; exact .inl e, fun a m => (by cases m), le, fun a u e => ?_⟩, ⟨⟨fun a u e n => ?_, fun a m e => ?_⟩, s.tm.mono le⟩, ⟨.ref p, rfl, .wr (k := .tpx) ⟨b, upd_same, hb⟩ rfl (hs.mono le), rfl⟩, by simp, fun a m => by cases m⟩
  · by_cases q : a = p
    · subst q; exact .inr (.inr np)
    · rw [upd_ne q] at e; exact .inl e
  · by_cases q : a = p
    · subst q; rw [upd_same] at e; cases e; exact .inl upd_same
    · rw [upd_ne q] at e
      rw [upd_ne q]
      exact s.fz a u e n
  · by_cases q : a = p
    · subst q; rw [upd_same] at e; cases e
    · rw [upd_ne q] at e
      exact tabZ_mono (tabS_new (s.tb a m e) np) le
theorem op_tupx_ok : OpN K (rTupX K) opTupX := by
  intro Z H vs xs res Q s hs h k
  unfold opTupX at h
  split at h
  · split at h
    · rename_i hf
      cases h
      cases hs with
      | cons h1 hs =>
        cases hs
        obtain ⟨f, h1⟩ := h1
        obtain ⟨a, vs, rfl, q, fr⟩ := rep_lst hf s h1
        exact ⟨a, vs, rfl, .of q, fun l b nl hb => k _ _ _ _ (New.tpx s nl hb fr)⟩
    · cases h
  · cases h
theorem New.tpk {p : Addr} {vs : List V} {ds : List D} (s : SubM K Z H) (np : H p = none) (hs : FReps K Z vs ds) : New K Z H (upd Z p (.tup vs)) (upd H p (.tup vs)) (.ref p) (.fz (.tpk ds)) [] := by
  have n := New.fzo (o := .tup vs) (k := .tup) (vs := vs) (ds := ds) (d := .tup ds) s np rfl rfl hs
  exact ⟨n.step, n.sub, ⟨.ref p, rfl, .wr (k := .tpk) (upd_same : upd Z p (.tup vs) p = _) rfl (hs.mono n.step.z), rfl⟩, by simp, fun a m => by cases m⟩
theorem e_tupX {t : Tg} {ds : List D} : opTupX [(t, .lst ds)] = if t.flat = true then some (.fz (.tpx ds)) else none := rfl
end
section
variable {X : Cx}
def tBMX (r : V → List V → Hp → VK → Prop) (to : TE) (t : TA) : TE := fun σ H Q => to σ H fun x H1 => (∃ p b vs, x = .ref p ∧ H1 p = some (.frz b (.tup vs)) ∧ b.dict = none) ∧ t σ H1 fun xs H2 => r x xs H2 Q
theorem pe_bmX {o e : Expr} {es : List Expr} {to : TE} {t : TA} {name : Str} {apos cpos : Pos} {id : String} {r : V → List V → Hp → VK → Prop} (pa : PlainAttrs "tuple") (slot : Slot "tuple" name id) (hty : typeOf (.builtin id) = pure (.type "method_descriptor")) (hm : MtR X id r) (ho : PE X o to) (ha : PA X (e :: es) t)
    (hbase : attributeBase o name X.env (eval o X.env) = eval o X.env := by rfl)
    (hfew : ((backTo cpos (starEach (e :: es) X.env)).all (fun x => !x.1) && (backToKw cpos (keywordEach [] X.env)).all (fun x => x.1.isSome)
      && decide ((e :: es).length + ([] : List Keyword).length + (if ([] : List Keyword).isEmpty then 0 else 1) < 30)) = true := by rfl)
    (hline : (apos.endLine == cpos.line) = true := by rfl) (hs : starEach (e :: es) X.env = (false, eval e X.env) :: starEach es X.env := by rfl) (hplain : (backTo cpos (starEach es X.env)).any (·.1) = false := by rfl) :
    PE X (.Call (.Attribute o name apos) (e :: es) [] cpos) (tBMX r to t) := by
  refine ⟨fun pins s σ H Q I h => ?_⟩
  refine wpAny_Call_method_late hbase hfew hline rfl (thn (ho.run pins s σ H _ I h) fun v s1 ⟨x, H1, I1, r1, ty, q1⟩ => ?_)
  obtain ⟨p, b, vs, rfl, hp, hb⟩ := ty
  cases r1
  obtain ⟨e1, hz, its, _, ob, e2, hc, _⟩ := I1.hok p _ hp
  have eb : b = ob := by rw [e1] at e2; exact Option.some.inj e2
  subst eb
  refine ⟨"tuple", id, pa, slot, hty, ⟨b, e1, hc⟩, fun a z => by cases z; exact ⟨b, e1, hb⟩, ?_⟩
  have hA := ha.run cpos pins s1 σ H1 _ I1 q1
  rw [hs] at hA ⊢
  refine Calls.callWith_builtin (by show (false || (backTo cpos (starEach es X.env)).any (·.1)) = false; rw [hplain] <;> rfl) (Calls.evalArgs_plain ?_)
  exact thn hA fun us s2 ⟨vs, H2, I2, r2, q2⟩ => hm pins s2 σ H2 (.ref p) vs (.ref p) us Q I2 (show RelV (.ref p) (.ref p) from rfl) r2 q2
end
def rTupIx (K : PySem.W.Frag) : V → List V → Hp → VK → Prop := fun x xs H Q => ∃ p, ∃ ys : List Str, ∃ z j, x = .ref p ∧ xs = [.str z] ∧ SqT K H p (ys.map V.str) ∧ ys[j]? = some z ∧ (∀ m, m < j → ys[m]? ≠ some z) ∧ Q (.int (j : Nat)) H
theorem mt_tupIx {X : Cx} : MtR X "tuple.index" (rTupIx X.K) := mt_tup_index
def opIdxX (ds : List D) : List (Tg × D) → Option Sl
  | [(_, .str z)] => (strsOf ds).bind fun ys => (ys.findIdx? fun y => decide (y = z)).map fun j => .fz (.int (j : Nat))
  | _ => none
def kidX (ds : List D) (rs ss : List Sl) : Ro (Sl × List Sl) := orS ((valL ss rs).bind (opIdxX ds)) ss
def kidX0 (ft : FA) : Sl → List Sl → Ro (Sl × List Sl)
  | .fz (.tpx ds), ss => (ft ss).bind fun q => kidX ds q.1 q.2
  | _, _ => .stuck
def fIdxX (fo : FE) (ft : FA) : FE := fun ss => (fo ss).bind fun p => kidX0 ft p.1 p.2
section
variable {K : PySem.W.Frag} {E : EW} {σ : L2.St} {H : Hp} {Q : VK}
theorem re_idxX {fo : FE} {ft : FA} (h : RE K E (fIdxX fo ft) σ H Q) : tBMX (rTupIx K) (RE K E fo) (RA K E ft) σ H Q := by
  obtain ⟨Z, es, s, hv, k⟩ := h
  refine RE.next (ts := []) (n := fun p => kidX0 ft p.1 p.2) s hv (by rw [List.append_nil]; exact k) fun a Z1 H1 es1 x fx s1 hv1 k1 => ?_
  dsimp only at k1
  unfold kidX0 at k1
  split at k1
  · rename_i ds
    obtain ⟨y, q1, q2, q3⟩ := s1.ok ⟨some x, .fz (.tpx ds), fx⟩ (by simp)
    cases q1
    obtain ⟨p, ws, rfl, _, tx⟩ := tpx_node q2
    obtain ⟨b, hb1, hb2⟩ := tx.at_ s1.sub.toSub
    refine ⟨⟨p, b, ws, rfl, hb1, hb2⟩, RA.next (n := fun q => kidX ds q.1 q.2) s1 hv1 k1 fun Z2 H2 es2 us vs e2 s2 hv2 k2 => ?_⟩
    obtain ⟨r', hr, k3⟩ := Kon.some k2
    obtain ⟨ys, h3, h4⟩ := Option.bind_eq_some_iff.mp hr
    obtain ⟨y, q1, q4, q5⟩ := s2.ok ⟨some (.ref p), .fz (.tpx ds), fx⟩ (by simp)
    cases q1
    obtain ⟨p', ws', e6, fr, tx'⟩ := tpx_node q4
    cases e6
    obtain ⟨b', hb3, _⟩ := tx'.at_ s2.sub.toSub
    have vals := s2.vals (us := us) (fun u m => by simp [m]) e2 h3
    unfold opIdxX at h4
    split at h4
    · rename_i t z
      obtain ⟨zs, e7, e8⟩ := Option.bind_eq_some_iff.mp h4
      obtain ⟨j, e9, e10⟩ := Option.map_eq_some_iff.mp e8
      cases e10
      have ew := strs_of e7 fr
      subst ew
      cases vals with
      | cons v1 v2 =>
        cases v2
        obtain ⟨f, v1⟩ := v1
        obtain rfl := rep_str s2.sub v1
        obtain ⟨hj, hj2, hj3⟩ := List.findIdx?_eq_some_iff_getElem.mp e9
        refine ⟨p, zs, z, j, rfl, rfl, .inl (.inr ⟨b', hb3⟩), ?_, fun m hm hz => ?_, ?_⟩
        · rw [List.getElem?_eq_getElem hj]
          exact congrArg some (of_decide_eq_true hj2)
        · have := hj3 m hm
          rw [List.getElem?_eq_getElem (by omega)] at hz
          rw [Option.some.inj hz] at this
          simp at this
        · exact fin_new s2 hv2 k3 (New.leaf s2.sub (.int _))
    · cases h4
  · exact k1.elim
theorem cv_idxX {X : Cx} {e : Expr} {fo : FE} {ft : FA} (h : PE X e (tBMX (rTupIx X.K) (RE X.K E fo) (RA X.K E ft))) : PE X e (RE X.K E (fIdxX fo ft)) := pe_mono h fun _ _ _ z => re_idxX z
end
section
variable {fo fa : FE} {ft : FA} {ss : List Sl} {d : D} {ds xs : List D} {z : Str} {t : Tg} {c : Sl → List Sl → Ro (Sl × List Sl)}
theorem e_fWk : fWk fa ss = (fa ss).bind fun p => kwk p.1 p.2 := rfl
theorem e_kwk : kwk (.fz d) ss = .ok (.fz (wk d), ss) := rfl
theorem e_wkX : wk (.tpx xs) = .tup (wks xs) := by rw [wk]
theorem e_wkK : wk (.tpk xs) = .tup (wks xs) := by rw [wk]
theorem e_wkT : wk (.tup xs) = .tup (wks xs) := by rw [wk]
theorem e_wks0 : wks [] = [] := by rw [wks]
theorem e_wks1 {d : D} : wks (d :: xs) = wk d :: wks xs := by rw [wks]
theorem wks_str : ∀ ys : List Str, wks (ys.map D.str) = ys.map D.str
  | [] => by rw [List.map_nil, wks]
  | y :: r => by rw [List.map_cons, wks, wks_str r]; rfl
theorem e_idxX : fIdxX fo ft ss = (fo ss).bind fun p => kidX0 ft p.1 p.2 := rfl
theorem e_kidX0 : kidX0 ft (.fz (.tpx ds)) ss = (ft ss).bind fun q => kidX ds q.1 q.2 := rfl
theorem e_kidX {rs : List Sl} : kidX ds rs ss = orS ((valL ss rs).bind (opIdxX ds)) ss := rfl
theorem e_opIdxX : opIdxX ds [(t, .str z)] = (strsOf ds).bind fun ys => (ys.findIdx? fun y => decide (y = z)).map fun j => .fz (.int (j : Nat)) := rfl
end
end Mi
namespace Mi
open PySem PySem.Spec PyProof.Rows L2 Rt
section
variable {X : Cx}
end
section
variable {cs : List Str} {n C : Str} {i j : Nat} {x d : D} {z : Int} {ss : List Sl} {c : Nat → Tg} {fs : List (Str × D)} {q : D × D} {ds : List D} {kvs : List (List Key × D)}
end
section
variable {K : PySem.W.Frag} {E : EW} {kp : List Nat} {σ : L2.St} {Z H : Hp} {Q : VK} {De : Ends} {cs : List Str} {n : Str} {i j : Nat} {z : Int}
end
end Mi
namespace Mi
open PySem PySem.Spec PyProof.Rows L2 Rt
section
variable {X : Cx} {CX : CXT} {E0 : XK} {x : Str} {p pos : Pos} {e : Expr} {es : List Expr} {t : TA} {i : Nat} {tab : List (Str × Fm)}
end
section
variable {K : PySem.W.Frag} {E : EW} {σ : L2.St} {H : Hp} {Q : VK}
end
section
variable {i : Nat} {tab : List (Str × Fm)} {ft : FA} {ss : List Sl} {x : Str} {m : Fm} {r : List (Str × Fm)}
end
section
variable {X : Cx} {E : EW} {e : Expr} {dvs : List V} {dds : List D} {m : Fm} {fo : FE}
end
section
variable {K : PySem.W.Frag} {E : EW} {σ : L2.St} {H : Hp} {Q : VK}
end
end Mi
namespace Mi
open PySem PySem.Spec PyProof.Rows L2 Rt
section
variable {K : PySem.W.Frag} {E : EW} {σ : L2.St} {Z H : Hp} {es ts : List Ent} {Q : VK} {fd fk fx : FE}
end
section
variable {X : Cx} {E : EW} {fd fk fx : FE} {e : Expr} {ss : List Sl} {a b : Sl} {t : Tg} {d k z y : D} {kvs : List (List Key × D)}
end
end Mi
namespace Lw
open PySem PySem.Spec PyProof.Rows L2 Rt Mi
structure Txt (K : PySem.W.Frag) (mg : Str → Option Value) : Prop where
  all : ∃ (h : Heap) (w : World), K.In h ∧ h.Ns mainGlobals mg ∧ He.SaysX fa fn [] (Mi.lamTf.map (·.1)) ex w h K
section
variable {K : PySem.W.Frag} {mg : Str → Option Value}
theorem T_fa (T : Txt K mg) (i : Nat) {f : He.Fa} (h : fa[i]? = some f) : f.ok K = true := by
  obtain ⟨_, _, _, _, c⟩ := T.all
  exact (He.SaysT.d c.t).fact i h
theorem T_glo (T : Txt K mg) {x : Str} (i : Nat) (h : fa[i]? = some (.glo x) := by rfl) : mg x = some (.ref (He.ga K x)) := by
  obtain ⟨_, _, X, G, _⟩ := T.all
  exact He.glo_ok X G (T_fa T i h)
theorem T_free (T : Txt K mg) {x : Str} (i : Nat) (h : fa[i]? = some (.free x) := by rfl) : mg x = none := by
  obtain ⟨_, _, X, G, _⟩ := T.all
  exact He.free_ok X G (T_fa T i h)
theorem T_cls (T : Txt K mg) {x : Str} (i : Nat) (h : fa[i]? = some (.cls x) := by rfl) : Cls K (He.ga K x) := He.cls_ok (T_fa T i h)
theorem T_noat (T : Txt K mg) {x f : Str} (i : Nat) (h : fa[i]? = some (.noat x f) := by rfl) : NoAttr K (He.ga K x) f := He.noat_ok (T_fa T i h)
theorem T_meth (T : Txt K mg) {x m : Str} (i : Nat) (h : fa[i]? = some (.meth x m) := by rfl) : Meth K (He.ga K x) m (He.ma K (He.ga K x) m) := He.meth_ok (T_fa T i h)
theorem T_mkr (T : Txt K mg) {x : Str} (i : Nat) (h : fa[i]? = some (.mkr x) := by rfl) : Mk K (He.ga K x) (He.ma K (He.ga K x) "__init__") := He.mkr_ok (T_fa T i h)
theorem T_ex (T : Txt K mg) {b : PySem.W.Frag → Bool} (i : Nat) (h : exs[i]? = some b := by rfl) : b K = true := by
  obtain ⟨_, _, _, _, c⟩ := T.all
  exact List.all_eq_true.mp c.more b (List.mem_of_getElem? h)
theorem T_fn (T : Txt K mg) (i : Nat) {d : He.DefD} (h : fn[i]? = some d) : FunD K d.name d.qual d.params d.body d.scope (d.dvs K) (d.kws K) (He.fAd K d.at_) (fdA K d.at_) := by
  obtain ⟨_, _, _, _, c⟩ := T.all
  obtain ⟨fd, F⟩ := (He.SaysT.d c.t).def_ i h
  rw [← fdA_eq F]
  exact F
end
section
variable {K : PySem.W.Frag} {mg : Str → Option Value}
theorem cls_Share (T : Txt K mg) : Cls K (He.ga K "Share") := T_cls T 16
theorem ty_Share (T : Txt K mg) (H : Hp) (a dx : Addr) (fs : List (Str × V)) (e : H a = some (.ins (He.ga K "Share") dx fs)) : TyX K H (.ref a) (.ref (He.ga K "Share")) :=
  .base (.ins e (cls_Share T) (of_decide_eq_true (T_ex T 0)) (of_decide_eq_true (T_ex T 2)) (of_decide_eq_true (T_ex T 3)) (of_decide_eq_true (T_ex T 1)))
theorem cls_ok (T : Txt K mg) : ClsOk K cls := clsOk_of (fun c h => by
  simp only [cls, List.mem_cons, List.not_mem_nil, or_false] at h
  rcases h with rfl
  · exact ty_Share T) (T_ex T 4)
theorem xc_NoName (T : Txt K mg) : XCls K "LookupError.__new__" tl_Key (He.ga K "NoName") := xcls_of (T_ex T 5)
theorem xt_NoName (T : Txt K mg) : PySem.W.takerIn K (He.ga K "NoName") "name" = some none := of_decide_eq_true (T_ex T 6)
theorem xi_NoName (T : Txt K mg) : PySem.W.findIn K (.ref (He.ga K "NoName")) "__init__" = some (some (.ref (He.fAd K ("NoName", some "__init__")))) := of_decide_eq_true (T_ex T 7)
theorem xf_NoName (T : Txt K mg) : PySem.W.typeIn K (.ref (He.fAd K ("NoName", some "__init__"))) = some (.type "function") := of_decide_eq_true (T_ex T 8)
theorem xm2 (T : Txt K mg) : XmT K xtab := xmT_of (T_ex T 13)
theorem xc2 (T : Txt K mg) : XcT K xtab := xcT_of (T_ex T 14)
theorem xf2 (T : Txt K mg) : XfT K xfl := xfT_of (T_ex T 15)
theorem fo_top (T : Txt K mg) : FldOk K ["Share"] "top" := fun c h => by
  simp only [List.mem_cons, List.not_mem_nil, or_false] at h
  rcases h with rfl
  · exact ⟨cls_Share T, T_noat T 17⟩
theorem fo_bottom (T : Txt K mg) : FldOk K ["Share"] "bottom" := fun c h => by
  simp only [List.mem_cons, List.not_mem_nil, or_false] at h
  rcases h with rfl
  · exact ⟨cls_Share T, T_noat T 19⟩
theorem F_law_held (T : Txt K mg) : FunD K "_law_held" "_law_held" (defArgs s_law_held) (defBody s_law_held) (defScope s_law_held) [] [] (He.fAd K ("_law_held", none)) (fdA K ("_law_held", none)) := T_fn T 0 (d := d_law_held) rfl
theorem k_law_held (T : Txt K mg) : PySem.W.keepIn K (.ref (He.fAd K ("_law_held", none))) = true := (F_law_held T).kp
theorem b_law_held (T : Txt K mg) : Binds K (fdA K ("_law_held", none)) ["_law_script"] [] := FunD.bindsN (F_law_held T) fun _ _ _ _ _ _ us hl => match us, hl with | [_], _ => rfl
theorem F_law_draw (T : Txt K mg) : FunD K "_law_draw" "_law_draw" (defArgs s_law_draw) (defBody s_law_draw) (defScope s_law_draw) [] [] (He.fAd K ("_law_draw", none)) (fdA K ("_law_draw", none)) := T_fn T 1 (d := d_law_draw) rfl
theorem k_law_draw (T : Txt K mg) : PySem.W.keepIn K (.ref (He.fAd K ("_law_draw", none))) = true := (F_law_draw T).kp
theorem b_law_draw (T : Txt K mg) : Binds K (fdA K ("_law_draw", none)) ["_law_held_here", "_law_many"] [] := FunD.bindsN (F_law_draw T) fun _ _ _ _ _ _ us hl => match us, hl with | [_, _], _ => rfl
theorem F_law_names (T : Txt K mg) : FunD K "_law_names" "_law_names" (defArgs s_law_names) (defBody s_law_names) (defScope s_law_names) [] [] (He.fAd K ("_law_names", none)) (fdA K ("_law_names", none)) := T_fn T 2 (d := d_law_names) rfl
theorem k_law_names (T : Txt K mg) : PySem.W.keepIn K (.ref (He.fAd K ("_law_names", none))) = true := (F_law_names T).kp
theorem b_law_names (T : Txt K mg) : Binds K (fdA K ("_law_names", none)) ["_law_held_here", "_law_many"] [] := FunD.bindsN (F_law_names T) fun _ _ _ _ _ _ us hl => match us, hl with | [_, _], _ => rfl
theorem F_NoName_init (T : Txt K mg) : FunD K "__init__" "NoName.__init__" (defArgs s_NoName_init) (defBody s_NoName_init) (defScope s_NoName_init) [] [] (He.fAd K ("NoName", some "__init__")) (fdA K ("NoName", some "__init__")) := T_fn T 3 (d := d_NoName_init) rfl
theorem b_NoName_init (T : Txt K mg) : Binds K (fdA K ("NoName", some "__init__")) ["self", "name"] [] := FunD.bindsN (F_NoName_init T) fun _ _ _ _ _ _ us hl => match us, hl with | [_, _], _ => rfl
theorem F_place_in (T : Txt K mg) : FunD K "place_in" "place_in" (defArgs s_place_in) (defBody s_place_in) (defScope s_place_in) [] [] (He.fAd K ("place_in", none)) (fdA K ("place_in", none)) := T_fn T 4 (d := d_place_in) rfl
theorem k_place_in (T : Txt K mg) : PySem.W.keepIn K (.ref (He.fAd K ("place_in", none))) = true := (F_place_in T).kp
theorem b_place_in (T : Txt K mg) : Binds K (fdA K ("place_in", none)) ["order", "name"] [] := FunD.bindsN (F_place_in T) fun _ _ _ _ _ _ us hl => match us, hl with | [_, _], _ => rfl
theorem F_is_whole (T : Txt K mg) : FunD K "is_whole" "is_whole" (defArgs s_is_whole) (defBody s_is_whole) (defScope s_is_whole) [] [] (He.fAd K ("is_whole", none)) (fdA K ("is_whole", none)) := T_fn T 5 (d := d_is_whole) rfl
theorem k_is_whole (T : Txt K mg) : PySem.W.keepIn K (.ref (He.fAd K ("is_whole", none))) = true := (F_is_whole T).kp
theorem b_is_whole (T : Txt K mg) : Binds K (fdA K ("is_whole", none)) ["thing"] [] := FunD.bindsN (F_is_whole T) fun _ _ _ _ _ _ us hl => match us, hl with | [_], _ => rfl
theorem F_divisor (T : Txt K mg) : FunD K "divisor" "divisor" (defArgs s_divisor) (defBody s_divisor) (defScope s_divisor) [] [] (He.fAd K ("divisor", none)) (fdA K ("divisor", none)) := T_fn T 6 (d := d_divisor) rfl
theorem k_divisor (T : Txt K mg) : PySem.W.keepIn K (.ref (He.fAd K ("divisor", none))) = true := (F_divisor T).kp
theorem b_divisor (T : Txt K mg) : Binds K (fdA K ("divisor", none)) ["one", "other"] [] := FunD.bindsN (F_divisor T) fun _ _ _ _ _ _ us hl => match us, hl with | [_, _], _ => rfl
theorem F_Share_init (T : Txt K mg) : FunD K "__init__" "Share.__init__" (defArgs s_Share_init) (defBody s_Share_init) (defScope s_Share_init) [V.int 1] [] (He.fAd K ("Share", some "__init__")) (fdA K ("Share", some "__init__")) := T_fn T 7 (d := d_Share_init) rfl
theorem b_Share_init_2 (T : Txt K mg) : ∃ ds, Vals [.int 1] ds ∧ Binds K (fdA K ("Share", some "__init__")) ["self", "top", "bottom"] ds := FunD.binds1 (F_Share_init T) 2 0 (by intro z; cases z) rfl fun _ _ _ _ _ _ _ us its hu hi => match us, its, hu, hi with | [_, _], [_], _, _ => ⟨_, rfl, rfl⟩
theorem b_Share_init_3 (T : Txt K mg) : ∃ ds, Vals [] ds ∧ Binds K (fdA K ("Share", some "__init__")) ["self", "top", "bottom"] ds := FunD.binds1 (F_Share_init T) 3 1 (by intro z; cases z) rfl fun _ _ _ _ _ _ _ us its hu hi => match us, its, hu, hi with | [_, _, _], [_], _, _ => ⟨_, rfl, rfl⟩
theorem F_ways (T : Txt K mg) : FunD K "ways" "ways" (defArgs s_ways) (defBody s_ways) (defScope s_ways) [] [] (He.fAd K ("ways", none)) (fdA K ("ways", none)) := T_fn T 8 (d := d_ways) rfl
theorem k_ways (T : Txt K mg) : PySem.W.keepIn K (.ref (He.fAd K ("ways", none))) = true := (F_ways T).kp
theorem b_ways (T : Txt K mg) : Binds K (fdA K ("ways", none)) ["many", "some"] [] := FunD.bindsN (F_ways T) fun _ _ _ _ _ _ us hl => match us, hl with | [_, _], _ => rfl
theorem F_Share_plus (T : Txt K mg) : FunD K "plus" "Share.plus" (defArgs s_Share_plus) (defBody s_Share_plus) (defScope s_Share_plus) [] [] (He.fAd K ("Share", some "plus")) (fdA K ("Share", some "plus")) := T_fn T 9 (d := d_Share_plus) rfl
theorem b_Share_plus (T : Txt K mg) : Binds K (fdA K ("Share", some "plus")) ["self", "other"] [] := FunD.bindsN (F_Share_plus T) fun _ _ _ _ _ _ us hl => match us, hl with | [_, _], _ => rfl
theorem F_round_bound (T : Txt K mg) : FunD K "round_bound" "round_bound" (defArgs s_round_bound) (defBody s_round_bound) (defScope s_round_bound) [] [] (He.fAd K ("round_bound", none)) (fdA K ("round_bound", none)) := T_fn T 10 (d := d_round_bound) rfl
theorem k_round_bound (T : Txt K mg) : PySem.W.keepIn K (.ref (He.fAd K ("round_bound", none))) = true := (F_round_bound T).kp
theorem b_round_bound (T : Txt K mg) : Binds K (fdA K ("round_bound", none)) ["order", "name"] [] := FunD.bindsN (F_round_bound T) fun _ _ _ _ _ _ us hl => match us, hl with | [_, _], _ => rfl
theorem F_law_pair (T : Txt K mg) : FunD K "_law_pair" "_law_pair" (defArgs s_law_pair) (defBody s_law_pair) (defScope s_law_pair) [] [] (He.fAd K ("_law_pair", none)) (fdA K ("_law_pair", none)) := T_fn T 11 (d := d_law_pair) rfl
theorem k_law_pair (T : Txt K mg) : PySem.W.keepIn K (.ref (He.fAd K ("_law_pair", none))) = true := (F_law_pair T).kp
theorem b_law_pair (T : Txt K mg) : Binds K (fdA K ("_law_pair", none)) ["_law_share"] [] := FunD.bindsN (F_law_pair T) fun _ _ _ _ _ _ us hl => match us, hl with | [_], _ => rfl
theorem F_law_sets (T : Txt K mg) : FunD K "_law_sets" "_law_sets" (defArgs s_law_sets) (defBody s_law_sets) (defScope s_law_sets) [] [] (He.fAd K ("_law_sets", none)) (fdA K ("_law_sets", none)) := T_fn T 12 (d := d_law_sets) rfl
theorem k_law_sets (T : Txt K mg) : PySem.W.keepIn K (.ref (He.fAd K ("_law_sets", none))) = true := (F_law_sets T).kp
theorem b_law_sets (T : Txt K mg) : Binds K (fdA K ("_law_sets", none)) ["_law_order", "_law_name"] [] := FunD.bindsN (F_law_sets T) fun _ _ _ _ _ _ us hl => match us, hl with | [_, _], _ => rfl
theorem F_law_low (T : Txt K mg) : FunD K "_law_low" "_law_low" (defArgs s_law_low) (defBody s_law_low) (defScope s_law_low) [] [] (He.fAd K ("_law_low", none)) (fdA K ("_law_low", none)) := T_fn T 13 (d := d_law_low) rfl
theorem k_law_low (T : Txt K mg) : PySem.W.keepIn K (.ref (He.fAd K ("_law_low", none))) = true := (F_law_low T).kp
theorem b_law_low (T : Txt K mg) : Binds K (fdA K ("_law_low", none)) ["_law_top", "_law_bottom"] [] := FunD.bindsN (F_law_low T) fun _ _ _ _ _ _ us hl => match us, hl with | [_, _], _ => rfl
theorem F_law_add (T : Txt K mg) : FunD K "_law_add" "_law_add" (defArgs s_law_add) (defBody s_law_add) (defScope s_law_add) [] [] (He.fAd K ("_law_add", none)) (fdA K ("_law_add", none)) := T_fn T 14 (d := d_law_add) rfl
theorem k_law_add (T : Txt K mg) : PySem.W.keepIn K (.ref (He.fAd K ("_law_add", none))) = true := (F_law_add T).kp
theorem b_law_add (T : Txt K mg) : Binds K (fdA K ("_law_add", none)) ["_law_one", "_law_other"] [] := FunD.bindsN (F_law_add T) fun _ _ _ _ _ _ us hl => match us, hl with | [_, _], _ => rfl
theorem F_law_round_bound (T : Txt K mg) : FunD K "_law_round_bound" "_law_round_bound" (defArgs s_law_round_bound) (defBody s_law_round_bound) (defScope s_law_round_bound) [] [] (He.fAd K ("_law_round_bound", none)) (fdA K ("_law_round_bound", none)) := T_fn T 15 (d := d_law_round_bound) rfl
theorem k_law_round_bound (T : Txt K mg) : PySem.W.keepIn K (.ref (He.fAd K ("_law_round_bound", none))) = true := (F_law_round_bound T).kp
theorem b_law_round_bound (T : Txt K mg) : Binds K (fdA K ("_law_round_bound", none)) ["_law_order", "_law_name"] [] := FunD.bindsN (F_law_round_bound T) fun _ _ _ _ _ _ us hl => match us, hl with | [_, _], _ => rfl
theorem F_law_kinds (T : Txt K mg) : FunD K "_law_kinds" "_law_kinds" (defArgs s_law_kinds) (defBody s_law_kinds) (defScope s_law_kinds) [] [] (He.fAd K ("_law_kinds", none)) (fdA K ("_law_kinds", none)) := T_fn T 16 (d := d_law_kinds) rfl
theorem k_law_kinds (T : Txt K mg) : PySem.W.keepIn K (.ref (He.fAd K ("_law_kinds", none))) = true := (F_law_kinds T).kp
theorem b_law_kinds (T : Txt K mg) : Binds K (fdA K ("_law_kinds", none)) ["_law_error"] [] := FunD.bindsN (F_law_kinds T) fun _ _ _ _ _ _ us hl => match us, hl with | [_], _ => rfl
theorem F_law_bases (T : Txt K mg) : FunD K "_law_bases" "_law_bases" (defArgs s_law_bases) (defBody s_law_bases) (defScope s_law_bases) [] [] (He.fAd K ("_law_bases", none)) (fdA K ("_law_bases", none)) := T_fn T 17 (d := d_law_bases) rfl
theorem k_law_bases (T : Txt K mg) : PySem.W.keepIn K (.ref (He.fAd K ("_law_bases", none))) = true := (F_law_bases T).kp
theorem b_law_bases (T : Txt K mg) : Binds K (fdA K ("_law_bases", none)) ["_law_word"] [] := FunD.bindsN (F_law_bases T) fun _ _ _ _ _ _ us hl => match us, hl with | [_], _ => rfl
theorem F_law_refused (T : Txt K mg) : FunD K "_law_refused" "_law_refused" (defArgs s_law_refused) (defBody s_law_refused) (defScope s_law_refused) [] [] (He.fAd K ("_law_refused", none)) (fdA K ("_law_refused", none)) := T_fn T 18 (d := d_law_refused) rfl
theorem k_law_refused (T : Txt K mg) : PySem.W.keepIn K (.ref (He.fAd K ("_law_refused", none))) = true := (F_law_refused T).kp
theorem b_law_refused (T : Txt K mg) : Binds K (fdA K ("_law_refused", none)) ["_law_order", "_law_name"] [] := FunD.bindsN (F_law_refused T) fun _ _ _ _ _ _ us hl => match us, hl with | [_, _], _ => rfl
theorem F_law (T : Txt K mg) : FunD K "law" "law" (defArgs s_law) (defBody s_law) (defScope s_law) [] [] (He.fAd K ("law", none)) (fdA K ("law", none)) := T_fn T 19 (d := d_law) rfl
end
end Lw
namespace Lw
open PySem PySem.Spec PyProof.Rows L2 Rt Mi
noncomputable def c_law_held : FS :=
  (fRet (fDisp [((fc (.str "cells")), (ffrz (fN opList2 (fcons (fSl (fvar 0) fNoPart (fPart (fc (.int 63)))) fnil)))), ((fc (.str "at")), (fc (.int 0))), ((fc (.str "left")), (fc (.int 0)))]))
noncomputable def m_law_held : Fm := body 1 1 [0] c_law_held
noncomputable def c_law_draw : FS :=
  (fSeq (fIfS (fTest (f2 opGt (f2 opIx (fvar 0) (fc (.str "left"))) (fc (.int 0))))
    (fSeq (fSet 2 (f2 opMod (f2 opIx (fvar 0) (fc (.str "left"))) (fvar 1)))
    (fSeq (fAsg (gSubF (fvar 0) (fc (.str "left"))) (f2 opFdiv (f2 opIx (fvar 0) (fc (.str "left"))) (fvar 1)))
    (fRet (fvar 2)))) fNext)
    (fSeq (fSet 3 (f2 opIx (fvar 0) (fc (.str "at"))))
    (fSeq (fAsg (gSubF (fvar 0) (fc (.str "at"))) (f2 opAdd2 (fvar 3) (fc (.int 1))))
    (fSeq (fSet 4 (fIf (fTest (f2 opNeK (f2 opIx (fvar 0) (fc (.str "cells"))) (fLst fnil))) (f2 opIx (f2 opIx (fvar 0) (fc (.str "cells"))) (f2 opMod (fvar 3) (fN opLen2 (fcons (f2 opIx (fvar 0) (fc (.str "cells"))) fnil)))) (fc (.int 0))))
    (fSeq (fIfS (fAnd (fTest (f2 opGe (fvar 4) (f2 opPow (fc (.int 10)) (fc (.int 18))))) (fTest (f2 opLt (fvar 3) (fN opLen2 (fcons (f2 opIx (fvar 0) (fc (.str "cells"))) fnil)))))
    (fSeq (fAsg (gSubF (fvar 0) (fc (.str "left"))) (f2 opFdiv (f2 opSub (fvar 4) (f2 opPow (fc (.int 10)) (fc (.int 18)))) (fvar 1)))
    (fRet (f2 opMod (f2 opSub (fvar 4) (f2 opPow (fc (.int 10)) (fc (.int 18)))) (fvar 1)))) fNext)
    (fSeq (fSet 5 (f2 opMod (f2 opAdd2 (f2 opAdd2 (f2 opAdd2 (f2 opMul2 (f2 opMod (fvar 4) (fc (.int 2147483587))) (fc (.int 40692))) (f2 opMul2 (f2 opMul2 (fc (.int 7907)) (fvar 3)) (fvar 3))) (f2 opMul2 (fc (.int 104729)) (fvar 3))) (fc (.int 17))) (fc (.int 2147483629))))
    (fSeq (fSet 5 (f2 opMod (f2 opAdd2 (f2 opAdd2 (f2 opMul2 (fvar 5) (fc (.int 48271))) (f2 opFdiv (fvar 5) (fc (.int 127)))) (fc (.int 31))) (fc (.int 2147483647))))
    (fRet (f2 opMod (f2 opFdiv (fvar 5) (fc (.int 89))) (fvar 1))))))))))
noncomputable def m_law_draw : Fm := body 6 2 [0, 1] c_law_draw
noncomputable def le_law_names_1 : FE :=
  (f2 opIx (fvar 2) (fCall m_law_draw [] (fcons (fvar 0) (fcons (fc (.int 26)) fnil))))
noncomputable def lp_law_names_1 : FS :=
  (fSeq (fSet 11 (ffrz (fSl (fvar 4) (fPart (fvar 5)) (fPart (f2 opAdd2 (fvar 5) (f2 opIx (fLst (fcons (fc (.int 8)) (fcons (f2 opMod (fvar 10) (f2 opAdd2 (f2 opSub (fvar 3) (fvar 5)) (fc (.int 1)))) fnil))) (fvar 8)))))))
    (fDrop (fMU "list" opAppend (fvar 9) (fcons (ffrz (f2 opAdd2 (f2 opAdd2 (fSl (fvar 4) fNoPart (fPart (fvar 5))) (f2 opIx (fvar 2) (f2 opMod (f2 opAdd2 (fvar 6) (f2 opMul2 (fvar 7) (fvar 10))) (fc (.int 26))))) (fvar 11))) fnil))))
noncomputable def c_law_names : FS :=
  (fSeq (fSet 2 (fc (.str "abcdefghijklmnopqrstuvwxyz")))
    (fSeq (fSet 3 (ffrz (fCall m_law_draw [] (fcons (fvar 0) (fcons (fc (.int 8)) fnil)))))
    (fSeq (fSet 4 (ffrz (fBM "str" opJoin (fc (.str "")) (fcons (fComp (iRngF (fcons (fvar 3) fnil)) (gN 10) fYes le_law_names_1 12 [10]) fnil))))
    (fSeq (fPar2 5 6 (fcons (ffrz (fCall m_law_draw [] (fcons (fvar 0) (fcons (f2 opAdd2 (fvar 3) (fc (.int 1))) fnil)))) (fcons (ffrz (fCall m_law_draw [] (fcons (fvar 0) (fcons (fc (.int 26)) fnil)))) fnil)))
    (fSeq (fPar2 7 8 (fcons (f2 opIx (fLst (fcons (fc (.int 1)) (fcons (fc (.int 3)) (fcons (fc (.int 5)) (fcons (fc (.int 7)) (fcons (fc (.int 9)) (fcons (fc (.int 11)) (fcons (fc (.int 15)) (fcons (fc (.int 17)) fnil))))))))) (fCall m_law_draw [] (fcons (fvar 0) (fcons (fc (.int 8)) fnil)))) (fcons (ffrz (fCall m_law_draw [] (fcons (fvar 0) (fcons (fc (.int 2)) fnil)))) fnil)))
    (fSeq (fSet 9 (fLst fnil))
    (fSeq (fFor (iRngF (fcons (fvar 1) fnil)) (gN 10)
    lp_law_names_1)
    (fRet (fvar 9)))))))))
noncomputable def m_law_names : Fm := body 12 2 [0, 1] c_law_names
noncomputable def c_place_in : FS :=
  (fSeq (fIfS (fTest (f2 opNotIn (fvar 1) (fWk (fvar 0))))
    (fRaise "NoName" "name" (fvar 1)) fNext)
    (fRet (fIdxX (fvar 0) (fcons (fvar 1) fnil))))
noncomputable def m_place_in : Fm := body 2 2 [0, 1] c_place_in
noncomputable def c_is_whole : FS :=
  (fRet (fAndV (fN (opIsi cls) (fcons (fvar 0) (fcons (fc (.ty "int")) fnil))) (f1 opNot (fN (opIsi cls) (fcons (fvar 0) (fcons (fc (.ty "bool")) fnil))))))
noncomputable def m_is_whole : Fm := body 1 1 [0] c_is_whole
noncomputable def lt_divisor_1 : FT :=
  (fTest (f2 opGt (fvar 1) (fc (.int 0))))
noncomputable def lp_divisor_1 : FS :=
  (fPar2 0 1 (fcons (fvar 1) (fcons (f2 opMod (fvar 0) (fvar 1)) fnil)))
noncomputable def c_divisor : FS :=
  (fSeq (fPar2 0 1 (fcons (fN opAbs (fcons (fvar 0) fnil)) (fcons (fN opAbs (fcons (fvar 1) fnil)) fnil)))
    (fSeq (fWhile lt_divisor_1
    lp_divisor_1)
    (fRet (fvar 0))))
noncomputable def m_divisor : Fm := body 2 2 [] c_divisor
noncomputable def lp_Share_init_1 : FS :=
  (fIfS (fNot (fTrv (fCall m_is_whole [] (fcons (fvar 3) fnil))))
    fNever fNext)
noncomputable def c_Share_init : FS :=
  (fSeq (fFor (iAnyF (fTup (fcons (fvar 1) (fcons (fvar 2) fnil)))) (gN 3)
    lp_Share_init_1)
    (fSeq (fIfS (fTest (f2 opEqK (fvar 2) (fc (.int 0))))
    fNever fNext)
    (fSeq (fSet 4 (ffrz (fCall m_divisor [] (fcons (fvar 1) (fcons (fvar 2) fnil)))))
    (fSeq (fIfS (fTest (f2 opLt (fvar 2) (fc (.int 0))))
    (fSet 4 (f2 opSub (fc (.int 0)) (fvar 4))) fNext)
    (fSeq (fSFld ["Share"] "top" (fvar 0) (f2 opFdiv (fvar 1) (fvar 4)))
    (fSFld ["Share"] "bottom" (fvar 0) (f2 opFdiv (fvar 2) (fvar 4))))))))
noncomputable def m_Share_init : Fm := body 5 3 [0, 1, 2] c_Share_init
noncomputable def lp_ways_1 : FS :=
  (fSet 2 (f2 opFdiv (f2 opMul2 (fvar 2) (f2 opSub (fvar 0) (fvar 3))) (f2 opAdd2 (fvar 3) (fc (.int 1)))))
noncomputable def c_ways : FS :=
  (fSeq (fSet 2 (fc (.int 1)))
    (fSeq (fFor (iRngF (fcons (fvar 1) fnil)) (gN 3)
    lp_ways_1)
    (fRet (fvar 2))))
noncomputable def m_ways : Fm := body 4 2 [0, 1] c_ways
noncomputable def c_Share_plus : FS :=
  (fRet (ffrz (fMake "Share" .o1 m_Share_init [] (fcons (ffrz (f2 opAdd2 (f2 opMul2 (f1 (opFld ["Share"] "top") (fvar 0)) (f1 (opFld ["Share"] "bottom") (fvar 1))) (f2 opMul2 (f1 (opFld ["Share"] "top") (fvar 1)) (f1 (opFld ["Share"] "bottom") (fvar 0))))) (fcons (ffrz (f2 opMul2 (f1 (opFld ["Share"] "bottom") (fvar 0)) (f1 (opFld ["Share"] "bottom") (fvar 1)))) fnil)))))
noncomputable def m_Share_plus : Fm := body 2 2 [0, 1] c_Share_plus
noncomputable def lp_round_bound_1 : FS :=
  (fSeq (fSet 8 (ffrz (f2 opMul2 (fCall m_ways [] (fcons (fvar 2) (fcons (fvar 6) fnil))) (fCall m_ways [] (fcons (fvar 3) (fcons (fvar 7) fnil))))))
    (fSeq (fSet 4 (ffrz (fMeth "Share" "plus" m_Share_plus [] (fvar 4) (fcons (ffrz (fMake "Share" .o1 m_Share_init [] (fcons (ffrz (f2 opMul2 (fvar 8) (fvar 7))) (fcons (ffrz (f2 opAdd2 (f2 opAdd2 (fvar 6) (fvar 7)) (fc (.int 1)))) fnil)))) fnil))))
    (fSet 5 (ffrz (fMeth "Share" "plus" m_Share_plus [] (fvar 5) (fcons (ffrz (fMake "Share" .o1 m_Share_init [] (fcons (ffrz (f2 opMul2 (fvar 8) (fvar 6))) (fcons (ffrz (f2 opAdd2 (f2 opAdd2 (fvar 6) (fvar 7)) (fc (.int 1)))) fnil)))) fnil))))))
noncomputable def lp_round_bound_2 : FS :=
  (fFor (iRngF (fcons (f2 opAdd2 (fvar 3) (fc (.int 1))) fnil)) (gN 7)
    lp_round_bound_1)
noncomputable def c_round_bound : FS :=
  (fSeq (fSet 2 (ffrz (fCall m_place_in [] (fcons (fvar 0) (fcons (fvar 1) fnil)))))
    (fSeq (fSet 3 (f2 opSub (f2 opSub (fN opLen2 (fcons (fWk (fvar 0)) fnil)) (fvar 2)) (fc (.int 1))))
    (fSeq (fPar2 4 5 (fcons (ffrz (fMake "Share" .o1 m_Share_init [.int 1] (fcons (fc (.int 0)) fnil))) (fcons (ffrz (fMake "Share" .o1 m_Share_init [.int 1] (fcons (fc (.int 0)) fnil))) fnil)))
    (fSeq (fFor (iRngF (fcons (f2 opAdd2 (fvar 2) (fc (.int 1))) fnil)) (gN 6)
    lp_round_bound_2)
    (fRet (fTup (fcons (fvar 4) (fcons (fvar 5) fnil))))))))
noncomputable def m_round_bound : Fm := body 9 2 [0, 1] c_round_bound
noncomputable def lp_law_pair_1 : FS :=
  (fIfS (fOr (fNot (fTrv (fN (opIsi cls) (fcons (fvar 1) (fcons (fc (.ty "int")) fnil))))) (fTrv (fN (opIsi cls) (fcons (fvar 1) (fcons (fc (.ty "bool")) fnil)))))
    (fRet (fc .non)) fNext)
noncomputable def c_law_pair : FS :=
  (fSeq (fIfS (fNot (fTrv (fN (opIsi cls) (fcons (fvar 0) (fcons (fc (.obj "Share")) fnil)))))
    (fRet (fc .non)) fNext)
    (fSeq (fFor (iAnyF (fTup (fcons (f1 (opFld ["Share"] "top") (fvar 0)) (fcons (f1 (opFld ["Share"] "bottom") (fvar 0)) fnil)))) (gN 1)
    lp_law_pair_1)
    (fRet (fTup (fcons (f1 (opFld ["Share"] "top") (fvar 0)) (fcons (f1 (opFld ["Share"] "bottom") (fvar 0)) fnil))))))
noncomputable def m_law_pair : Fm := body 2 1 [0] c_law_pair
noncomputable def le_law_sets_1 : FE :=
  (ffrz (f2 opAdd2 (fvar 4) (fLst (fcons (fvar 3) fnil))))
noncomputable def le_law_sets_2 : FE :=
  (ffrz (f2 opAdd2 (fvar 4) (fLst (fcons (fvar 3) fnil))))
noncomputable def lp_law_sets_1 : FS :=
  (fIfS (fTest (f2 opEqK (fvar 3) (fvar 1)))
    (fSet 2 (ffrz (fComp (iAnyF (fvar 2)) (gN 4) fYes le_law_sets_1 5 [4]))) (fSet 2 (ffrz (f2 opAdd2 (fvar 2) (fComp (iAnyF (fvar 2)) (gN 4) fYes le_law_sets_2 5 [4])))))
noncomputable def c_law_sets : FS :=
  (fSeq (fSet 2 (ffrz (fLst (fcons (ffrz (fLst fnil)) fnil))))
    (fSeq (fForO 0 (gN 3)
    lp_law_sets_1)
    (fRet (fvar 2))))
noncomputable def m_law_sets : Fm := body 5 2 [0, 1] c_law_sets
noncomputable def lt_law_low_1 : FT :=
  (fTest (f2 opGt (fvar 3) (fc (.int 0))))
noncomputable def lp_law_low_1 : FS :=
  (fPar2 2 3 (fcons (fvar 3) (fcons (f2 opMod (fvar 2) (fvar 3)) fnil)))
noncomputable def c_law_low : FS :=
  (fSeq (fPar2 2 3 (fcons (fN opAbs (fcons (fvar 0) fnil)) (fcons (fN opAbs (fcons (fvar 1) fnil)) fnil)))
    (fSeq (fWhile lt_law_low_1
    lp_law_low_1)
    (fSeq (fIfS (fTest (f2 opLt (fvar 1) (fc (.int 0))))
    (fSet 2 (f2 opSub (fc (.int 0)) (fvar 2))) fNext)
    (fRet (fTup (fcons (f2 opFdiv (fvar 0) (fvar 2)) (fcons (f2 opFdiv (fvar 1) (fvar 2)) fnil)))))))
noncomputable def m_law_low : Fm := body 4 2 [0, 1] c_law_low
noncomputable def c_law_add : FS :=
  (fRet (fCall m_law_low [] (fcons (ffrz (f2 opAdd2 (f2 opMul2 (f2 opIx (fvar 0) (fc (.int 0))) (f2 opIx (fvar 1) (fc (.int 1)))) (f2 opMul2 (f2 opIx (fvar 1) (fc (.int 0))) (f2 opIx (fvar 0) (fc (.int 1)))))) (fcons (ffrz (f2 opMul2 (f2 opIx (fvar 0) (fc (.int 1))) (f2 opIx (fvar 1) (fc (.int 1))))) fnil))))
noncomputable def m_law_add : Fm := body 2 2 [0, 1] c_law_add
noncomputable def lp_law_round_bound_1 : FS :=
  (fSeq (fSet 5 (ffrz (fBM "list" opIndex (fvar 4) (fcons (fvar 1) fnil))))
    (fSeq (fSet 2 (ffrz (fCall m_law_add [] (fcons (fvar 2) (fcons (fTup (fcons (f2 opSub (f2 opSub (fN opLen2 (fcons (fvar 4) fnil)) (fc (.int 1))) (fvar 5)) (fcons (fN opLen2 (fcons (fvar 4) fnil)) fnil))) fnil)))))
    (fSet 3 (ffrz (fCall m_law_add [] (fcons (fvar 3) (fcons (fTup (fcons (fvar 5) (fcons (fN opLen2 (fcons (fvar 4) fnil)) fnil))) fnil)))))))
noncomputable def c_law_round_bound : FS :=
  (fSeq (fAsg (gT 2 [(gN 2), (gN 3)]) (fTup (fcons (fTup (fcons (fc (.int 0)) (fcons (fc (.int 1)) fnil))) (fcons (fTup (fcons (fc (.int 0)) (fcons (fc (.int 1)) fnil))) fnil))))
    (fSeq (fFor (iAnyF (fCall m_law_sets [] (fcons (fvar 0) (fcons (fvar 1) fnil)))) (gN 4)
    lp_law_round_bound_1)
    (fRet (fTup (fcons (fvar 2) (fcons (fvar 3) fnil))))))
noncomputable def m_law_round_bound : Fm := body 6 2 [0, 1] c_law_round_bound
noncomputable def lc_law_kinds_1 : FT :=
  (fTrv (fvar 6))
noncomputable def le_law_kinds_1 : FE :=
  (fvar 5)
noncomputable def c_law_kinds : FS :=
  (fSeq (fSet 1 (ffrz (fLst (fcons (fN (opIsiX xtab) (fcons (fvar 0) (fcons (fc (.obj "NoKind")) fnil))) (fcons (fN (opIsiX xtab) (fcons (fvar 0) (fcons (fc (.obj "Nought")) fnil))) (fcons (fN (opIsiX xtab) (fcons (fvar 0) (fcons (fc (.obj "NoShare")) fnil))) (fcons (fN (opIsiX xtab) (fcons (fvar 0) (fcons (fc (.obj "Uneven")) fnil))) fnil)))))))
    (fSeq (fSet 1 (ffrz (f2 opAdd2 (fvar 1) (fLst (fcons (fN (opIsiX xtab) (fcons (fvar 0) (fcons (fc (.obj "BadName")) fnil))) (fcons (fN (opIsiX xtab) (fcons (fvar 0) (fcons (fc (.obj "NoNumber")) fnil))) (fcons (fN (opIsiX xtab) (fcons (fvar 0) (fcons (fc (.obj "NoRide")) fnil))) fnil)))))))
    (fSeq (fSet 1 (ffrz (f2 opAdd2 (fvar 1) (fLst (fcons (fN (opIsiX xtab) (fcons (fvar 0) (fcons (fc (.obj "NoText")) fnil))) (fcons (fN (opIsiX xtab) (fcons (fvar 0) (fcons (fc (.obj "NoName")) fnil))) (fcons (fN (opIsiX xtab) (fcons (fvar 0) (fcons (fc (.obj "NoDay")) fnil))) fnil)))))))
    (fSeq (fSet 1 (ffrz (f2 opAdd2 (fvar 1) (fLst (fcons (fN (opIsiX xtab) (fcons (fvar 0) (fcons (fc (.obj "NoSeats")) fnil))) (fcons (fN (opIsiX xtab) (fcons (fvar 0) (fcons (fc (.obj "TooMany")) fnil))) (fcons (fN (opIsiX xtab) (fcons (fvar 0) (fcons (fc (.obj "Taken")) fnil))) fnil)))))))
    (fSeq (fSet 1 (ffrz (f2 opAdd2 (fvar 1) (fLst (fcons (fN (opIsiX xtab) (fcons (fvar 0) (fcons (fc (.obj "NoRule")) fnil))) (fcons (fN (opIsiX xtab) (fcons (fvar 0) (fcons (fc (.obj "NothingDone")) fnil))) (fcons (fN (opIsiX xtab) (fcons (fvar 0) (fcons (fc (.obj "NoRow")) fnil))) fnil)))))))
    (fSeq (fSet 2 (ffrz (fBM "str" opSplit (fc (.str "kind nought share uneven badname number ride text name day seats many taken rule done row")) (fcons (fc (.str " ")) fnil))))
    (fSeq (fSet 3 (ffrz (fComp (iZipF (fvar 2) (fvar 1)) (gT 2 [(gN 5), (gN 6)]) lc_law_kinds_1 le_law_kinds_1 7 [5, 6])))
    (fSeq (fSet 4 (ffrz (fLst (fcons (fN (opIsiX xtab) (fcons (fvar 0) (fcons (fc (.ty "TypeError")) fnil))) (fcons (fN (opIsiX xtab) (fcons (fvar 0) (fcons (fc (.ty "ZeroDivisionError")) fnil))) (fcons (fN (opIsiX xtab) (fcons (fvar 0) (fcons (fc (.ty "ArithmeticError")) fnil))) fnil))))))
    (fSeq (fSet 4 (ffrz (f2 opAdd2 (fvar 4) (fLst (fcons (fN (opIsiX xtab) (fcons (fvar 0) (fcons (fc (.ty "ValueError")) fnil))) (fcons (fN (opIsiX xtab) (fcons (fvar 0) (fcons (fc (.ty "KeyError")) fnil))) (fcons (fN (opIsiX xtab) (fcons (fvar 0) (fcons (fc (.ty "LookupError")) fnil))) fnil)))))))
    (fSeq (fSet 4 (ffrz (f2 opAdd2 (fvar 4) (fLst (fcons (fN (opIsiX xtab) (fcons (fvar 0) (fcons (fc (.ty "IndexError")) fnil))) (fcons (fN (opIsiX xtab) (fcons (fvar 0) (fcons (fc (.ty "OverflowError")) fnil))) (fcons (fN (opIsiX xtab) (fcons (fvar 0) (fcons (fc (.ty "RuntimeError")) fnil))) fnil)))))))
    (fRet (fTup (fcons (fvar 3) (fcons (ffrz (f2 opAdd2 (fvar 4) (fLst (fcons (fN (opIsiX xtab) (fcons (fvar 0) (fcons (fc (.ty "NotImplementedError")) fnil))) fnil)))) fnil))))))))))))))
noncomputable def m_law_kinds : Fm := body 7 1 [0] c_law_kinds
noncomputable def le_law_bases_1 : FE :=
  (f2 opIn (fvar 2) (fDGet2 (fvar 1) (fvar 0) (ffrz (fLst (fcons (fc (.int 3)) fnil)))))
noncomputable def c_law_bases : FS :=
  (fSeq (fSet 1 (fDisp [((fc (.str "kind")), (ffrz (fLst (fcons (fc (.int 0)) fnil)))), ((fc (.str "nought")), (ffrz (fLst (fcons (fc (.int 1)) (fcons (fc (.int 2)) fnil))))), ((fc (.str "share")), (ffrz (fLst (fcons (fc (.int 2)) fnil)))), ((fc (.str "uneven")), (ffrz (fLst (fcons (fc (.int 2)) fnil)))), ((fc (.str "name")), (ffrz (fLst (fcons (fc (.int 4)) (fcons (fc (.int 5)) fnil))))), ((fc (.str "day")), (ffrz (fLst (fcons (fc (.int 5)) fnil)))), ((fc (.str "seats")), (ffrz (fLst (fcons (fc (.int 5)) (fcons (fc (.int 6)) fnil)))))]))
    (fSeq (fDrop (fMUd opUpdate (fvar 1) (fcons (ffrz (fDisp [((fc (.str "many")), (ffrz (fLst (fcons (fc (.int 2)) (fcons (fc (.int 7)) fnil))))), ((fc (.str "taken")), (ffrz (fLst (fcons (fc (.int 8)) fnil)))), ((fc (.str "rule")), (ffrz (fLst (fcons (fc (.int 8)) (fcons (fc (.int 9)) fnil))))), ((fc (.str "done")), (ffrz (fLst fnil))), ((fc (.str "row")), (ffrz (fLst fnil)))])) fnil)))
    (fRet (fComp (iRngF (fcons (fc (.int 10)) fnil)) (gN 2) fYes le_law_bases_1 3 [2]))))
noncomputable def m_law_bases : Fm := body 3 1 [0] c_law_bases
noncomputable def c_law_refused : FS :=
  (fSeq (fSet 2 (fc .non))
    (fSeq (fTryC xtab
    (fDrop (fCall m_round_bound [] (fcons (fvar 0) (fcons (fvar 1) fnil)))) [⟨[(.obj "NoName")], some 3, (fSet 2 (fvar 3))⟩])
    (fSeq (fIfS (fTest (f2 opIs (fvar 2) (fc .non)))
    (fRet (fc .non)) fNext)
    (fSeq (fAsg (gT 2 [(gN 4), (gN 5)]) (ffrz (fCall m_law_kinds [] (fcons (fvar 2) fnil))))
    (fRet (fTup (fcons (fvar 4) (fcons (f1 (opFldX xfl "name") (fvar 2)) (fcons (f2 opEqK (fvar 5) (fCall m_law_bases [] (fcons (fc (.str "name")) fnil))) fnil)))))))))
noncomputable def m_law_refused : Fm := body 6 2 [0, 1] c_law_refused
noncomputable def le_law_1 : FE :=
  (ffrz (fCall m_law_pair [] (fcons (fvar 8) fnil)))
noncomputable def lp_law_1 : FS :=
  (fSeq (fSet 6 (ffrz (fCall m_round_bound [] (fcons (fvar 4) (fcons (fvar 5) fnil)))))
    (fSeq (fIfS (fOr (fNot (fTrv (fN (opIsi cls) (fcons (fvar 6) (fcons (fc (.ty "tuple")) fnil))))) (fTest (f2 opNeK (fN opLen2 (fcons (fvar 6) fnil)) (fc (.int 2)))))
    (fRet (fc (.bl false))) fNext)
    (fIfS (fTest (f2 opNeK (fN opTupOf (fcons (fComp (iAnyF (fvar 6)) (gN 8) fYes le_law_1 9 [8]) fnil)) (fCall m_law_round_bound [] (fcons (fWk (fvar 4)) (fcons (fvar 5) fnil)))))
    (fRet (fc (.bl false))) fNext)))
noncomputable def lp_law_2 : FS :=
  (fIfS (fTest (f2 opNeK (fN (opReprO "" noFm) (fcons (fCall m_law_refused [] (fcons (fvar 4) (fcons (fvar 7) fnil))) fnil)) (fN (opReprO "" noFm) (fcons (fTup (fcons (ffrz (fLst (fcons (fc (.str "name")) fnil))) (fcons (fvar 7) (fcons (fc (.bl true)) fnil)))) fnil))))
    (fRet (fc (.bl false))) fNext)
noncomputable def lp_law_3 : FS :=
  (fSeq (fSet 4 (fN opTupX (fcons (fSl (fvar 2) fNoPart (fPart (f2 opAdd2 (fc (.int 1)) (fCall m_law_draw [] (fcons (fvar 1) (fcons (f2 opIx (fLst (fcons (fc (.int 5)) (fcons (fc (.int 8)) fnil))) (fvar 3)) fnil)))))) fnil)))
    (fSeq (fFor (iAnyF (fWk (fvar 4))) (gN 5)
    lp_law_1)
    (fFor (iAnyF (fLst (fcons (f2 opIx (fvar 2) (fc (.int 8))) (fcons (fc (.str "")) (fcons (fc .non) (fcons (fc (.int 0)) (fcons (f2 opAdd2 (f2 opIx (fWk (fvar 4)) (fc (.int 0))) (fc (.str "9"))) fnil))))))) (gN 7)
    lp_law_2)))
noncomputable def c_law : FS :=
  (fSeq (fSet 1 (fCall m_law_held [] (fcons (fvar 0) fnil)))
    (fSeq (fSet 2 (ffrz (fCall m_law_names [] (fcons (fvar 1) (fcons (fc (.int 9)) fnil)))))
    (fSeq (fFor (iRngF (fcons (fc (.int 2)) fnil)) (gN 3)
    lp_law_3)
    (fRet (fc (.bl true))))))
noncomputable def m_law : Fm := body 9 1 [0] c_law
end Lw
namespace Lw
open PySem PySem.Spec PyProof.Rows L2 Rt Mi
section
variable {P : Program} {w : World} {K : PySem.W.Frag} {mg : Str → Option Value} {base : Heap}
theorem ok_law_held (T : Txt K mg) : FnOk P w K mg base (L2.CX P w) 1 (He.fAd K ("_law_held", none)) (fdA K ("_law_held", none)) ["_law_script"] (spM K m_law_held) :=
  FunD.ok (F_law_held T) sc_law_held (fun _ _ _ _ h => len_body h) fun cdv A outer s H vs Q E hr h => ⟨RS K (fun _ => E) [0] c_law_held, (by unfold c_law_held; exact (pss_one (cs_ret (ps_ret (cv_disp (pe_disp (pps_cons (cv_c (.str _) pe_str) (cv_frz (cv_cb op_list2_ok (pe_callTy (call_listW (by rfl)) (by rfl) (T_free T 0) (by decide +kernel) (ca_cons (pa_cons (cv_sl (pe_slice sl_W (cv_var (pv 0)) (co_no po_none) (co_part (po_some (cv_c (.int _) pe_int))))) (ca_nil pa_nil)))))) (pps_cons (cv_c (.str _) pe_str) (cv_c (.int _) pe_int) (pps_cons (cv_c (.str _) pe_str) (cv_c (.int _) pe_int) pps_nil))) (by rfl) (by rfl) (fun z => by cases z) (by decide))))))), body_ok rfl h⟩
theorem ok_law_draw (T : Txt K mg) : FnOk P w K mg base (L2.CX P w) 1 (He.fAd K ("_law_draw", none)) (fdA K ("_law_draw", none)) ["_law_held_here", "_law_many"] (spM K m_law_draw) :=
  FunD.ok (F_law_draw T) sc_law_draw (fun _ _ _ _ h => len_body h) fun cdv A outer s H vs Q E hr h => ⟨RS K (fun _ => E) [0, 1] c_law_draw, (by unfold c_law_draw; exact (cs_seq (pss_cons (cs_if (ps_if (ct_op op_gt_ok (pt_cmpR op_gtU (cv_op op_ix_ok (pe_ix (ix_U (hu_of hr)) (cv_var (pv 0)) (cv_c (.str _) pe_str) (fun _ _ => rfl))) (cv_c (.int _) pe_int) (nomark _)))
    (cs_seq (pss_cons (cs_set (by decide) (ps_set (i := 2) sc_law_draw.nd rfl (by first | exact Or.inl rfl | exact Or.inr rfl) (cv_op op_mod_ok (pe_op op_modU (cv_op op_ix_ok (pe_ix (ix_U (hu_of hr)) (cv_var (pv 0)) (cv_c (.str _) pe_str) (fun _ _ => rfl))) (cv_var (pv 1))))))
    (cs_seq (pss_cons (cs_asg (on_gSub _ _) (ps_asg (cv_op op_fdiv_ok (pe_op op_fdivU (cv_op op_ix_ok (pe_ix (ix_U (hu_of hr)) (cv_var (pv 0)) (cv_c (.str _) pe_str) (fun _ _ => rfl))) (cv_var (pv 1)))) (cg_sub (pg_sub (cv_var (pv 0)) (cv_c (.str _) pe_str) (set_U (hu_of hr))))))
    (pss_one (cs_ret (ps_ret (cv_var (pv 2))))))))) cs_nil))
    (cs_seq (pss_cons (cs_set (by decide) (ps_set (i := 3) sc_law_draw.nd rfl (by first | exact Or.inl rfl | exact Or.inr rfl) (cv_op op_ix_ok (pe_ix (ix_U (hu_of hr)) (cv_var (pv 0)) (cv_c (.str _) pe_str) (fun _ _ => rfl)))))
    (cs_seq (pss_cons (cs_asg (on_gSub _ _) (ps_asg (cv_op op_add2_ok (pe_op op_addV (cv_var (pv 3)) (cv_c (.int _) pe_int))) (cg_sub (pg_sub (cv_var (pv 0)) (cv_c (.str _) pe_str) (set_U (hu_of hr))))))
    (cs_seq (pss_cons (cs_set (by decide) (ps_set (i := 4) sc_law_draw.nd rfl (by first | exact Or.inl rfl | exact Or.inr rfl) (cv_if (pe_ifExp (ct_op op_neK_ok (pt_cmpR (op_neK (hu_of hr)) (cv_op op_ix_ok (pe_ix (ix_U (hu_of hr)) (cv_var (pv 0)) (cv_c (.str _) pe_str) (fun _ _ => rfl))) (cv_lst (pe_lst (ca_nil pa_nil))) (nomark _))) (cv_op op_ix_ok (pe_ix (ix_U (hu_of hr)) (cv_op op_ix_ok (pe_ix (ix_U (hu_of hr)) (cv_var (pv 0)) (cv_c (.str _) pe_str) (fun _ _ => rfl))) (cv_op op_mod_ok (pe_op op_modU (cv_var (pv 3)) (cv_cb op_len2_ok (pe_callB call_lenW (by rfl) (T_free T 2) (by decide +kernel) (ca_cons (pa_cons (cv_op op_ix_ok (pe_ix (ix_U (hu_of hr)) (cv_var (pv 0)) (cv_c (.str _) pe_str) (fun _ _ => rfl))) (ca_nil pa_nil))))))) (fun _ _ => rfl))) (cv_c (.int _) pe_int)))))
    (cs_seq (pss_cons (cs_if (ps_if (PW.pt (cw_and (pw_and (ct_op op_ge_ok (pt_cmpR op_geU (cv_var (pv 4)) (cv_op op_pow_ok (pe_op op_powU (cv_c (.int _) pe_int) (cv_c (.int _) pe_int))) (nomark _))) (pw_and1 (ct_op op_lt_ok (pt_cmpR op_ltU (cv_var (pv 3)) (cv_cb op_len2_ok (pe_callB call_lenW (by rfl) (T_free T 2) (by decide +kernel) (ca_cons (pa_cons (cv_op op_ix_ok (pe_ix (ix_U (hu_of hr)) (cv_var (pv 0)) (cv_c (.str _) pe_str) (fun _ _ => rfl))) (ca_nil pa_nil))))) (nomark _)))))))
    (cs_seq (pss_cons (cs_asg (on_gSub _ _) (ps_asg (cv_op op_fdiv_ok (pe_op op_fdivU (cv_op op_sub_ok (pe_op op_subU (cv_var (pv 4)) (cv_op op_pow_ok (pe_op op_powU (cv_c (.int _) pe_int) (cv_c (.int _) pe_int))))) (cv_var (pv 1)))) (cg_sub (pg_sub (cv_var (pv 0)) (cv_c (.str _) pe_str) (set_U (hu_of hr))))))
    (pss_one (cs_ret (ps_ret (cv_op op_mod_ok (pe_op op_modU (cv_op op_sub_ok (pe_op op_subU (cv_var (pv 4)) (cv_op op_pow_ok (pe_op op_powU (cv_c (.int _) pe_int) (cv_c (.int _) pe_int))))) (cv_var (pv 1))))))))) cs_nil))
    (cs_seq (pss_cons (cs_set (by decide) (ps_set (i := 5) sc_law_draw.nd rfl (by first | exact Or.inl rfl | exact Or.inr rfl) (cv_op op_mod_ok (pe_op op_modU (cv_op op_add2_ok (pe_op op_addV (cv_op op_add2_ok (pe_op op_addV (cv_op op_add2_ok (pe_op op_addV (cv_op op_mul2_ok (pe_op op_mulV (cv_op op_mod_ok (pe_op op_modU (cv_var (pv 4)) (cv_c (.int _) pe_int))) (cv_c (.int _) pe_int))) (cv_op op_mul2_ok (pe_op op_mulV (cv_op op_mul2_ok (pe_op op_mulV (cv_c (.int _) pe_int) (cv_var (pv 3)))) (cv_var (pv 3)))))) (cv_op op_mul2_ok (pe_op op_mulV (cv_c (.int _) pe_int) (cv_var (pv 3)))))) (cv_c (.int _) pe_int))) (cv_c (.int _) pe_int)))))
    (cs_seq (pss_cons (cs_set (by decide) (ps_set (i := 5) sc_law_draw.nd rfl (by first | exact Or.inl rfl | exact Or.inr rfl) (cv_op op_mod_ok (pe_op op_modU (cv_op op_add2_ok (pe_op op_addV (cv_op op_add2_ok (pe_op op_addV (cv_op op_mul2_ok (pe_op op_mulV (cv_var (pv 5)) (cv_c (.int _) pe_int))) (cv_op op_fdiv_ok (pe_op op_fdivU (cv_var (pv 5)) (cv_c (.int _) pe_int))))) (cv_c (.int _) pe_int))) (cv_c (.int _) pe_int)))))
    (pss_one (cs_ret (ps_ret (cv_op op_mod_ok (pe_op op_modU (cv_op op_fdiv_ok (pe_op op_fdivU (cv_var (pv 5)) (cv_c (.int _) pe_int))) (cv_var (pv 1)))))))))))))))))))))), body_ok rfl h⟩
theorem ok_law_names (T : Txt K mg) : FnOk P w K mg base (L2.CX P w) 2 (He.fAd K ("_law_names", none)) (fdA K ("_law_names", none)) ["_law_held_here", "_law_many"] (spM K m_law_names) :=
  FunD.ok (F_law_names T) sc_law_names (fun _ _ _ _ h => len_body h) fun cdv A outer s H vs Q E hr h => ⟨RS K (fun _ => E) [0, 1] c_law_names, (by unfold c_law_names; exact (cs_seq (pss_cons (cs_set (by decide) (ps_set (i := 2) sc_law_names.nd rfl (by first | exact Or.inl rfl | exact Or.inr rfl) (cv_c (.str _) pe_str)))
    (cs_seq (pss_cons (cs_set (by decide) (ps_set (i := 3) sc_law_names.nd rfl (by first | exact Or.inl rfl | exact Or.inr rfl) (cv_frz (cv_call .nil (pe_call (ok_law_draw T) (hr.mono (by decide)) rfl (T_glo T 3) (k_law_draw T) (b_law_draw T) .nil pX (ca_cons (pa_cons (cv_var (pv 0)) (ca_cons (pa_cons (cv_c (.int _) pe_int) (ca_nil pa_nil))))))))))
    (cs_seq (pss_cons (cs_set (by decide) (ps_set (i := 4) sc_law_names.nd rfl (by first | exact Or.inl rfl | exact Or.inr rfl) (cv_frz (cv_bm op_join_ok (pe_bm PySem.F.plainAttrs_str PySem.F.slot_str_join PySem.F.type_str_join mt_join (cv_c (.str _) pe_str) (ca_cons (pa_cons (cv_comp (on_N 10) (pe_lc (own := [("_law_k", 10)]) rfl sc_law_names.nd (ci_rng1 (pi_range1 rfl (T_free T 4) (ca_cons (pa_cons (cv_var (pv 3)) (ca_nil pa_nil))))) (blkOk_by (N := N_law_names) (sc := defScope s_law_names) (own := [("_law_k", 10)]) (by decide +kernel)) (fun _ _ _ _ _ => (cg_name (by decide) (pg_name (i := 10) sc_law_names.nd rfl (by first | exact Or.inl rfl | exact Or.inr rfl)))) (fun _ _ _ _ _ => cts_yes) (fun _ _ _ _ _ => (cv_op op_ix_ok (pe_ix (ix_U (hu_of hr)) (cv_var (pv 2)) (cv_call .nil (pe_call (ok_law_draw T) (hr.mono (by decide)) rfl (T_glo T 3) (k_law_draw T) (b_law_draw T) .nil passL (ca_cons (pa_cons (cv_var (pv 0)) (ca_cons (pa_cons (cv_c (.int _) pe_int) (ca_nil pa_nil))))))) (fun _ _ => rfl)))))) (ca_nil pa_nil))))))))
    (cs_seq (pss_cons (cs_par (by decide) (by decide) (ps_par (i := 5) (j := 6) rfl sc_law_names.nd rfl rfl (by decide) rfl rfl (ca_cons (pa_cons (cv_frz (cv_call .nil (pe_call (ok_law_draw T) (hr.mono (by decide)) rfl (T_glo T 3) (k_law_draw T) (b_law_draw T) .nil pX (ca_cons (pa_cons (cv_var (pv 0)) (ca_cons (pa_cons (cv_op op_add2_ok (pe_op op_addV (cv_var (pv 3)) (cv_c (.int _) pe_int))) (ca_nil pa_nil)))))))) (ca_cons (pa_cons (cv_frz (cv_call .nil (pe_call (ok_law_draw T) (hr.mono (by decide)) rfl (T_glo T 3) (k_law_draw T) (b_law_draw T) .nil pX (ca_cons (pa_cons (cv_var (pv 0)) (ca_cons (pa_cons (cv_c (.int _) pe_int) (ca_nil pa_nil)))))))) (ca_nil pa_nil))))) (by rfl)))
    (cs_seq (pss_cons (cs_par (by decide) (by decide) (ps_par (i := 7) (j := 8) rfl sc_law_names.nd rfl rfl (by decide) rfl rfl (ca_cons (pa_cons (cv_op op_ix_ok (pe_ix (ix_U (hu_of hr)) (cv_lst (pe_lst (ca_cons (pa_cons (cv_c (.int _) pe_int) (ca_cons (pa_cons (cv_c (.int _) pe_int) (ca_cons (pa_cons (cv_c (.int _) pe_int) (ca_cons (pa_cons (cv_c (.int _) pe_int) (ca_cons (pa_cons (cv_c (.int _) pe_int) (ca_cons (pa_cons (cv_c (.int _) pe_int) (ca_cons (pa_cons (cv_c (.int _) pe_int) (ca_cons (pa_cons (cv_c (.int _) pe_int) (ca_nil pa_nil))))))))))))))))))) (cv_call .nil (pe_call (ok_law_draw T) (hr.mono (by decide)) rfl (T_glo T 3) (k_law_draw T) (b_law_draw T) .nil pX (ca_cons (pa_cons (cv_var (pv 0)) (ca_cons (pa_cons (cv_c (.int _) pe_int) (ca_nil pa_nil))))))) (fun _ _ => rfl))) (ca_cons (pa_cons (cv_frz (cv_call .nil (pe_call (ok_law_draw T) (hr.mono (by decide)) rfl (T_glo T 3) (k_law_draw T) (b_law_draw T) .nil pX (ca_cons (pa_cons (cv_var (pv 0)) (ca_cons (pa_cons (cv_c (.int _) pe_int) (ca_nil pa_nil)))))))) (ca_nil pa_nil))))) (by rfl)))
    (cs_seq (pss_cons (cs_set (by decide) (ps_set (i := 9) sc_law_names.nd rfl (by first | exact Or.inl rfl | exact Or.inr rfl) (cv_lst (pe_lst (ca_nil pa_nil)))))
    (cs_seq (pss_cons (cs_for (on_N 10) (ps_for (passes_of rfl) rfl (ci_rng1 (pi_range1 rfl (T_free T 4) (ca_cons (pa_cons (cv_var (pv 1)) (ca_nil pa_nil))))) (cg_name (by decide) (pg_name (i := 10) sc_law_names.nd rfl (by first | exact Or.inl rfl | exact Or.inr rfl)))
    (cs_seq (pss_cons (cs_set (by decide) (ps_set (i := 11) sc_law_names.nd rfl (by first | exact Or.inl rfl | exact Or.inr rfl) (cv_frz (cv_sl (pe_slice sl_W (cv_var (pv 4)) (co_part (po_some (cv_var (pv 5)))) (co_part (po_some (cv_op op_add2_ok (pe_op op_addV (cv_var (pv 5)) (cv_op op_ix_ok (pe_ix (ix_U (hu_of hr)) (cv_lst (pe_lst (ca_cons (pa_cons (cv_c (.int _) pe_int) (ca_cons (pa_cons (cv_op op_mod_ok (pe_op op_modU (cv_var (pv 10)) (cv_op op_add2_ok (pe_op op_addV (cv_op op_sub_ok (pe_op op_subU (cv_var (pv 3)) (cv_var (pv 5)))) (cv_c (.int _) pe_int))))) (ca_nil pa_nil))))))) (cv_var (pv 8)) (fun _ _ => rfl))))))))))))
    (pss_one (cs_drop (ps_expr (cv_mu op_append_ok opAppend_node (pe_bm PySem.F.plainAttrs_list PySem.F.slot_list_append PySem.F.type_list_append mt_append (cv_var (pv 9)) (ca_cons (pa_cons (cv_frz (cv_op op_add2_ok (pe_op op_addV (cv_op op_add2_ok (pe_op op_addV (cv_sl (pe_slice sl_W (cv_var (pv 4)) (co_no po_none) (co_part (po_some (cv_var (pv 5)))))) (cv_op op_ix_ok (pe_ix (ix_U (hu_of hr)) (cv_var (pv 2)) (cv_op op_mod_ok (pe_op op_modU (cv_op op_add2_ok (pe_op op_addV (cv_var (pv 6)) (cv_op op_mul2_ok (pe_op op_mulV (cv_var (pv 7)) (cv_var (pv 10)))))) (cv_c (.int _) pe_int))) (fun _ _ => rfl))))) (cv_var (pv 11))))) (ca_nil pa_nil))))))))))))
    (pss_one (cs_ret (ps_ret (cv_var (pv 9)))))))))))))))))))), body_ok rfl h⟩
theorem ok_NoName_init (T : Txt K mg) : FnOk P w K mg base (L2.CX P w) 1 (He.fAd K ("NoName", some "__init__")) (fdA K ("NoName", some "__init__")) ["self", "name"] (spIni K "LookupError.__new__" tl_Key (He.ga K "NoName") "name") :=
  FunD.ok (F_NoName_init T) sc_NoName_init (fun _ _ _ _ h => len_ini h) fun cdv A outer s H vs Q E hr h => ⟨_, (pss_cons (ps_expr (pe_ini2 xb2_Key (by rfl) (T_free T 7) bb_Key (by decide) (by decide) tt_Key (by decide +kernel) (vv_Key _) (by decide +kernel) (pa_cons (pv 0) (pa_cons pe_str pa_nil)) (hc := mtree (attrBase_of rfl) rfl rfl))) (pss_cons (ps_put2 xb2_Key (pv 0) (pv 1)) pss_nil)), ini_body (m := "not there") rfl h⟩
theorem ok_place_in (T : Txt K mg) : FnOk P w K mg base (L2.CX P w) 3 (He.fAd K ("place_in", none)) (fdA K ("place_in", none)) ["order", "name"] (spM K m_place_in) :=
  FunD.ok (F_place_in T) sc_place_in (fun _ _ _ _ h => len_body h) fun cdv A outer s H vs Q E hr h => ⟨RS K (fun _ => E) [0, 1] c_place_in, (by unfold c_place_in; exact (cs_seq (pss_cons (cs_if (ps_if (ct_op op_notin_ok (pt_cmpR (op_notinU (hu_of hr)) (cv_var (pv 1)) (cv_wk (cv_var (pv 0))) (by rfl)))
    (pss_one (cs_raiseX rfl tX (pmk_x2 xb2_Key (xc_NoName T) (xt_NoName T) (xi_NoName T) (xf_NoName T) (ok_NoName_init T) (hr.mono (by decide)) (b_NoName_init T) (pXF tX) (by rfl) (T_glo T 8) (pa_cons (cv_var (pv 1)) pa_nil)))) cs_nil))
    (pss_one (cs_ret (ps_ret (cv_idxX (pe_bmX PySem.F.plainAttrs_tuple PySem.F.slot_tuple_index PySem.F.type_tuple_index mt_tupIx (cv_var (pv 0)) (ca_cons (pa_cons (cv_var (pv 1)) (ca_nil pa_nil))))))))))), body_ok rfl h⟩
theorem ok_is_whole (T : Txt K mg) : FnOk P w K mg base (L2.CX P w) 1 (He.fAd K ("is_whole", none)) (fdA K ("is_whole", none)) ["thing"] (spM K m_is_whole) :=
  FunD.ok (F_is_whole T) sc_is_whole (fun _ _ _ _ h => len_body h) fun cdv A outer s H vs Q E hr h => ⟨RS K (fun _ => E) [0] c_is_whole, (by unfold c_is_whole; exact (pss_one (cs_ret (ps_ret (cv_andT (pe_andT (cv_cb (op_isi_ok (cls_ok T)) (pe_callB call_isiW (by rfl) (T_free T 11) (by decide +kernel) (ca_cons (pa_cons (cv_var (pv 0)) (ca_cons (pa_cons (cv_c (.ty _) (pe_bltn (v := .ty "int") rfl (T_free T 10) (by decide +kernel) rfl)) (ca_nil pa_nil))))))) (pe_one (cv_notT (pe_notT (cv_cb (op_isi_ok (cls_ok T)) (pe_callB call_isiW (by rfl) (T_free T 11) (by decide +kernel) (ca_cons (pa_cons (cv_var (pv 0)) (ca_cons (pa_cons (cv_c (.ty _) (pe_bltn (v := .ty "bool") rfl (T_free T 12) (by decide +kernel) rfl)) (ca_nil pa_nil)))))))))))))))), body_ok rfl h⟩
theorem ok_divisor (T : Txt K mg) : FnOk P w K mg base (L2.CX P w) 1 (He.fAd K ("divisor", none)) (fdA K ("divisor", none)) ["one", "other"] (spM K m_divisor) :=
  FunD.ok (F_divisor T) sc_divisor (fun _ _ _ _ h => len_body h) fun cdv A outer s H vs Q E hr h => ⟨RS K (fun _ => E) [] c_divisor, (by unfold c_divisor; exact (cs_seq (pss_cons (cs_par (by decide) (by decide) (ps_par (i := 0) (j := 1) rfl sc_divisor.nd rfl rfl (by decide) rfl rfl (ca_cons (pa_cons (cv_cb op_abs_ok (pe_callB call_absU (by rfl) (T_free T 14) (by decide +kernel) (ca_cons (pa_cons (cv_var (pv 0)) (ca_nil pa_nil))))) (ca_cons (pa_cons (cv_cb op_abs_ok (pe_callB call_absU (by rfl) (T_free T 14) (by decide +kernel) (ca_cons (pa_cons (cv_var (pv 1)) (ca_nil pa_nil))))) (ca_nil pa_nil))))) (by rfl)))
    (cs_seq (pss_cons (cs_while (ps_while (passes_of rfl) (ct_op op_gt_ok (pt_cmpR op_gtU (cv_var (pv 1)) (cv_c (.int _) pe_int) (nomark _)))
    (pss_one (cs_par (by decide) (by decide) (ps_par (i := 0) (j := 1) rfl sc_divisor.nd rfl rfl (by decide) rfl rfl (ca_cons (pa_cons (cv_var (pv 1)) (ca_cons (pa_cons (cv_op op_mod_ok (pe_op op_modU (cv_var (pv 0)) (cv_var (pv 1)))) (ca_nil pa_nil))))) (by rfl))))))
    (pss_one (cs_ret (ps_ret (cv_var (pv 0)))))))))), body_ok rfl h⟩
theorem ok_Share_init (T : Txt K mg) : FnOk P w K mg base (L2.CX P w) 2 (He.fAd K ("Share", some "__init__")) (fdA K ("Share", some "__init__")) ["self", "top", "bottom"] (spM K m_Share_init) :=
  FunD.ok (F_Share_init T) sc_Share_init (fun _ _ _ _ h => len_body h) fun cdv A outer s H vs Q E hr h => ⟨RS K (fun _ => E) [0, 1, 2] c_Share_init, (by unfold c_Share_init; exact (cs_seq (pss_cons (cs_for (on_N 3) (ps_for (passes_of rfl) rfl (ci_any (pi_any (cv_tup (pe_tup (ca_cons (pa_cons (cv_var (pv 1)) (ca_cons (pa_cons (cv_var (pv 2)) (ca_nil pa_nil))))))))) (cg_name (by decide) (pg_name (i := 3) sc_Share_init.nd rfl (by first | exact Or.inl rfl | exact Or.inr rfl)))
    (pss_one (cs_if (ps_if (ct_not (pt_not (ct_trv (pt_trv (cv_call .nil (pe_call (ok_is_whole T) (hr.mono (by decide)) rfl (T_glo T 13) (k_is_whole T) (b_is_whole T) .nil pX (ca_cons (pa_cons (cv_var (pv 3)) (ca_nil pa_nil)))))))))
    (pss_one (cs_never ps_never)) cs_nil)))))
    (cs_seq (pss_cons (cs_if (ps_if (ct_op op_eqK_ok (pt_cmpR (op_eqK (hu_of hr)) (cv_var (pv 2)) (cv_c (.int _) pe_int) (nomark _)))
    (pss_one (cs_never ps_never)) cs_nil))
    (cs_seq (pss_cons (cs_set (by decide) (ps_set (i := 4) sc_Share_init.nd rfl (by first | exact Or.inl rfl | exact Or.inr rfl) (cv_frz (cv_call .nil (pe_call (ok_divisor T) (hr.mono (by decide)) rfl (T_glo T 15) (k_divisor T) (b_divisor T) .nil pX (ca_cons (pa_cons (cv_var (pv 1)) (ca_cons (pa_cons (cv_var (pv 2)) (ca_nil pa_nil))))))))))
    (cs_seq (pss_cons (cs_if (ps_if (ct_op op_lt_ok (pt_cmpR op_ltU (cv_var (pv 2)) (cv_c (.int _) pe_int) (nomark _)))
    (pss_one (cs_set (by decide) (ps_set (i := 4) sc_Share_init.nd rfl (by first | exact Or.inl rfl | exact Or.inr rfl) (cv_op op_sub_ok (pe_op op_subU (cv_c (.int _) pe_int) (cv_var (pv 4))))))) cs_nil))
    (cs_seq (pss_cons (cs_fld (fo_top T) (ps_fld (cv_var (pv 0)) (cv_op op_fdiv_ok (pe_op op_fdivU (cv_var (pv 1)) (cv_var (pv 4)))) rfl))
    (pss_one (cs_fld (fo_bottom T) (ps_fld (cv_var (pv 0)) (cv_op op_fdiv_ok (pe_op op_fdivU (cv_var (pv 2)) (cv_var (pv 4)))) rfl)))))))))))))), body_ok rfl h⟩
theorem ok_ways (T : Txt K mg) : FnOk P w K mg base (L2.CX P w) 1 (He.fAd K ("ways", none)) (fdA K ("ways", none)) ["many", "some"] (spM K m_ways) :=
  FunD.ok (F_ways T) sc_ways (fun _ _ _ _ h => len_body h) fun cdv A outer s H vs Q E hr h => ⟨RS K (fun _ => E) [0, 1] c_ways, (by unfold c_ways; exact (cs_seq (pss_cons (cs_set (by decide) (ps_set (i := 2) sc_ways.nd rfl (by first | exact Or.inl rfl | exact Or.inr rfl) (cv_c (.int _) pe_int)))
    (cs_seq (pss_cons (cs_for (on_N 3) (ps_for (passes_of rfl) rfl (ci_rng1 (pi_range1 rfl (T_free T 4) (ca_cons (pa_cons (cv_var (pv 1)) (ca_nil pa_nil))))) (cg_name (by decide) (pg_name (i := 3) sc_ways.nd rfl (by first | exact Or.inl rfl | exact Or.inr rfl)))
    (pss_one (cs_set (by decide) (ps_set (i := 2) sc_ways.nd rfl (by first | exact Or.inl rfl | exact Or.inr rfl) (cv_op op_fdiv_ok (pe_op op_fdivU (cv_op op_mul2_ok (pe_op op_mulV (cv_var (pv 2)) (cv_op op_sub_ok (pe_op op_subU (cv_var (pv 0)) (cv_var (pv 3)))))) (cv_op op_add2_ok (pe_op op_addV (cv_var (pv 3)) (cv_c (.int _) pe_int))))))))))
    (pss_one (cs_ret (ps_ret (cv_var (pv 2)))))))))), body_ok rfl h⟩
theorem ok_Share_plus (T : Txt K mg) : FnOk P w K mg base (L2.CX P w) 4 (He.fAd K ("Share", some "plus")) (fdA K ("Share", some "plus")) ["self", "other"] (spM K m_Share_plus) :=
  FunD.ok (F_Share_plus T) sc_Share_plus (fun _ _ _ _ h => len_body h) fun cdv A outer s H vs Q E hr h => ⟨RS K (fun _ => E) [0, 1] c_Share_plus, (by unfold c_Share_plus; exact (pss_one (cs_ret (ps_ret (cv_frz (cv_make (by intro z; cases z) .nil (pe_make (T_mkr T 20) (ok_Share_init T) (hr.mono (by decide)) rfl (T_glo T 18) (b_Share_init_3 T).choose_spec.2 (b_Share_init_3 T).choose_spec.1 pX (ca_cons (pa_cons (cv_frz (cv_op op_add2_ok (pe_op op_addV (cv_op op_mul2_ok (pe_op op_mulV (cv_fld (fo_top T) (pe_fld (cv_var (pv 0)) (attrBase_of rfl))) (cv_fld (fo_bottom T) (pe_fld (cv_var (pv 1)) (attrBase_of rfl))))) (cv_op op_mul2_ok (pe_op op_mulV (cv_fld (fo_top T) (pe_fld (cv_var (pv 1)) (attrBase_of rfl))) (cv_fld (fo_bottom T) (pe_fld (cv_var (pv 0)) (attrBase_of rfl)))))))) (ca_cons (pa_cons (cv_frz (cv_op op_mul2_ok (pe_op op_mulV (cv_fld (fo_bottom T) (pe_fld (cv_var (pv 0)) (attrBase_of rfl))) (cv_fld (fo_bottom T) (pe_fld (cv_var (pv 1)) (attrBase_of rfl)))))) (ca_nil pa_nil)))))))))))), body_ok rfl h⟩
theorem ok_round_bound (T : Txt K mg) : FnOk P w K mg base (L2.CX P w) 5 (He.fAd K ("round_bound", none)) (fdA K ("round_bound", none)) ["order", "name"] (spM K m_round_bound) :=
  FunD.ok (F_round_bound T) sc_round_bound (fun _ _ _ _ h => len_body h) fun cdv A outer s H vs Q E hr h => ⟨RS K (fun _ => E) [0, 1] c_round_bound, (by unfold c_round_bound; exact (cs_seq (pss_cons (cs_set (by decide) (ps_set (i := 2) sc_round_bound.nd rfl (by first | exact Or.inl rfl | exact Or.inr rfl) (cv_frz (cv_call .nil (pe_call (ok_place_in T) (hr.mono (by decide)) rfl (T_glo T 9) (k_place_in T) (b_place_in T) .nil pX (ca_cons (pa_cons (cv_var (pv 0)) (ca_cons (pa_cons (cv_var (pv 1)) (ca_nil pa_nil))))))))))
    (cs_seq (pss_cons (cs_set (by decide) (ps_set (i := 3) sc_round_bound.nd rfl (by first | exact Or.inl rfl | exact Or.inr rfl) (cv_op op_sub_ok (pe_op op_subU (cv_op op_sub_ok (pe_op op_subU (cv_cb op_len2_ok (pe_callB call_lenW (by rfl) (T_free T 2) (by decide +kernel) (ca_cons (pa_cons (cv_wk (cv_var (pv 0))) (ca_nil pa_nil))))) (cv_var (pv 2)))) (cv_c (.int _) pe_int)))))
    (cs_seq (pss_cons (cs_par (by decide) (by decide) (ps_par (i := 4) (j := 5) rfl sc_round_bound.nd rfl rfl (by decide) rfl rfl (ca_cons (pa_cons (cv_frz (cv_make (by intro z; cases z) (.cons (.int _) .nil) (pe_make (T_mkr T 20) (ok_Share_init T) (hr.mono (by decide)) rfl (T_glo T 18) (b_Share_init_2 T).choose_spec.2 (b_Share_init_2 T).choose_spec.1 pX (ca_cons (pa_cons (cv_c (.int _) pe_int) (ca_nil pa_nil)))))) (ca_cons (pa_cons (cv_frz (cv_make (by intro z; cases z) (.cons (.int _) .nil) (pe_make (T_mkr T 20) (ok_Share_init T) (hr.mono (by decide)) rfl (T_glo T 18) (b_Share_init_2 T).choose_spec.2 (b_Share_init_2 T).choose_spec.1 pX (ca_cons (pa_cons (cv_c (.int _) pe_int) (ca_nil pa_nil)))))) (ca_nil pa_nil))))) (by rfl)))
    (cs_seq (pss_cons (cs_for (on_N 6) (ps_for (passes_of rfl) rfl (ci_rng1 (pi_range1 rfl (T_free T 4) (ca_cons (pa_cons (cv_op op_add2_ok (pe_op op_addV (cv_var (pv 2)) (cv_c (.int _) pe_int))) (ca_nil pa_nil))))) (cg_name (by decide) (pg_name (i := 6) sc_round_bound.nd rfl (by first | exact Or.inl rfl | exact Or.inr rfl)))
    (pss_one (cs_for (on_N 7) (ps_for (passes_of rfl) rfl (ci_rng1 (pi_range1 rfl (T_free T 4) (ca_cons (pa_cons (cv_op op_add2_ok (pe_op op_addV (cv_var (pv 3)) (cv_c (.int _) pe_int))) (ca_nil pa_nil))))) (cg_name (by decide) (pg_name (i := 7) sc_round_bound.nd rfl (by first | exact Or.inl rfl | exact Or.inr rfl)))
    (cs_seq (pss_cons (cs_set (by decide) (ps_set (i := 8) sc_round_bound.nd rfl (by first | exact Or.inl rfl | exact Or.inr rfl) (cv_frz (cv_op op_mul2_ok (pe_op op_mulV (cv_call .nil (pe_call (ok_ways T) (hr.mono (by decide)) rfl (T_glo T 21) (k_ways T) (b_ways T) .nil pX (ca_cons (pa_cons (cv_var (pv 2)) (ca_cons (pa_cons (cv_var (pv 6)) (ca_nil pa_nil))))))) (cv_call .nil (pe_call (ok_ways T) (hr.mono (by decide)) rfl (T_glo T 21) (k_ways T) (b_ways T) .nil pX (ca_cons (pa_cons (cv_var (pv 3)) (ca_cons (pa_cons (cv_var (pv 7)) (ca_nil pa_nil))))))))))))
    (cs_seq (pss_cons (cs_set (by decide) (ps_set (i := 4) sc_round_bound.nd rfl (by first | exact Or.inl rfl | exact Or.inr rfl) (cv_frz (cv_meth .nil (pe_meth (cv_var (pv 4)) (T_cls T 16) (T_meth T 22) (ok_Share_plus T) (hr.mono (by decide)) (b_Share_plus T) .nil pX (ca_cons (pa_cons (cv_frz (cv_make (by intro z; cases z) .nil (pe_make (T_mkr T 20) (ok_Share_init T) (hr.mono (by decide)) rfl (T_glo T 18) (b_Share_init_3 T).choose_spec.2 (b_Share_init_3 T).choose_spec.1 pX (ca_cons (pa_cons (cv_frz (cv_op op_mul2_ok (pe_op op_mulV (cv_var (pv 8)) (cv_var (pv 7))))) (ca_cons (pa_cons (cv_frz (cv_op op_add2_ok (pe_op op_addV (cv_op op_add2_ok (pe_op op_addV (cv_var (pv 6)) (cv_var (pv 7)))) (cv_c (.int _) pe_int)))) (ca_nil pa_nil)))))))) (ca_nil pa_nil))) (ht := (mtree (attrBase_of rfl) rfl rfl)))))))
    (pss_one (cs_set (by decide) (ps_set (i := 5) sc_round_bound.nd rfl (by first | exact Or.inl rfl | exact Or.inr rfl) (cv_frz (cv_meth .nil (pe_meth (cv_var (pv 5)) (T_cls T 16) (T_meth T 22) (ok_Share_plus T) (hr.mono (by decide)) (b_Share_plus T) .nil pX (ca_cons (pa_cons (cv_frz (cv_make (by intro z; cases z) .nil (pe_make (T_mkr T 20) (ok_Share_init T) (hr.mono (by decide)) rfl (T_glo T 18) (b_Share_init_3 T).choose_spec.2 (b_Share_init_3 T).choose_spec.1 pX (ca_cons (pa_cons (cv_frz (cv_op op_mul2_ok (pe_op op_mulV (cv_var (pv 8)) (cv_var (pv 6))))) (ca_cons (pa_cons (cv_frz (cv_op op_add2_ok (pe_op op_addV (cv_op op_add2_ok (pe_op op_addV (cv_var (pv 6)) (cv_var (pv 7)))) (cv_c (.int _) pe_int)))) (ca_nil pa_nil)))))))) (ca_nil pa_nil))) (ht := (mtree (attrBase_of rfl) rfl rfl)))))))))))))))))
    (pss_one (cs_ret (ps_ret (cv_tup (pe_tup (ca_cons (pa_cons (cv_var (pv 4)) (ca_cons (pa_cons (cv_var (pv 5)) (ca_nil pa_nil))))))))))))))))))), body_ok rfl h⟩
theorem ok_law_pair (T : Txt K mg) : FnOk P w K mg base (L2.CX P w) 1 (He.fAd K ("_law_pair", none)) (fdA K ("_law_pair", none)) ["_law_share"] (spM K m_law_pair) :=
  FunD.ok (F_law_pair T) sc_law_pair (fun _ _ _ _ h => len_body h) fun cdv A outer s H vs Q E hr h => ⟨RS K (fun _ => E) [0] c_law_pair, (by unfold c_law_pair; exact (cs_seq (pss_cons (cs_if (ps_if (ct_not (pt_not (ct_trv (pt_trv (cv_cb (op_isi_ok (cls_ok T)) (pe_callB call_isiW (by rfl) (T_free T 11) (by decide +kernel) (ca_cons (pa_cons (cv_var (pv 0)) (ca_cons (pa_cons (cv_c (.obj _) (pe_glob (v := .ref (He.ga K "Share")) rfl (T_glo T 18) rfl)) (ca_nil pa_nil)))))))))))
    (pss_one (cs_ret (ps_ret (cv_c .non pe_non)))) cs_nil))
    (cs_seq (pss_cons (cs_for (on_N 1) (ps_for (passes_of rfl) rfl (ci_any (pi_any (cv_tup (pe_tup (ca_cons (pa_cons (cv_fld (fo_top T) (pe_fld (cv_var (pv 0)) (attrBase_of rfl))) (ca_cons (pa_cons (cv_fld (fo_bottom T) (pe_fld (cv_var (pv 0)) (attrBase_of rfl))) (ca_nil pa_nil))))))))) (cg_name (by decide) (pg_name (i := 1) sc_law_pair.nd rfl (by first | exact Or.inl rfl | exact Or.inr rfl)))
    (pss_one (cs_if (ps_if (PW.pt (cw_or (pw_or (ct_not (pt_not (ct_trv (pt_trv (cv_cb (op_isi_ok (cls_ok T)) (pe_callB call_isiW (by rfl) (T_free T 11) (by decide +kernel) (ca_cons (pa_cons (cv_var (pv 1)) (ca_cons (pa_cons (cv_c (.ty _) (pe_bltn (v := .ty "int") rfl (T_free T 10) (by decide +kernel) rfl)) (ca_nil pa_nil))))))))))) (pw_or1 (ct_trv (pt_trv (cv_cb (op_isi_ok (cls_ok T)) (pe_callB call_isiW (by rfl) (T_free T 11) (by decide +kernel) (ca_cons (pa_cons (cv_var (pv 1)) (ca_cons (pa_cons (cv_c (.ty _) (pe_bltn (v := .ty "bool") rfl (T_free T 12) (by decide +kernel) rfl)) (ca_nil pa_nil)))))))))))))
    (pss_one (cs_ret (ps_ret (cv_c .non pe_non)))) cs_nil)))))
    (pss_one (cs_ret (ps_ret (cv_tup (pe_tup (ca_cons (pa_cons (cv_fld (fo_top T) (pe_fld (cv_var (pv 0)) (attrBase_of rfl))) (ca_cons (pa_cons (cv_fld (fo_bottom T) (pe_fld (cv_var (pv 0)) (attrBase_of rfl))) (ca_nil pa_nil))))))))))))))), body_ok rfl h⟩
theorem ok_law_sets (T : Txt K mg) : FnOk P w K mg base (L2.CX P w) 1 (He.fAd K ("_law_sets", none)) (fdA K ("_law_sets", none)) ["_law_order", "_law_name"] (spM K m_law_sets) :=
  FunD.ok (F_law_sets T) sc_law_sets (fun _ _ _ _ h => len_body h) fun cdv A outer s H vs Q E hr h => ⟨RS K (fun _ => E) [0, 1] c_law_sets, (by unfold c_law_sets; exact (cs_seq (pss_cons (cs_set (by decide) (ps_set (i := 2) sc_law_sets.nd rfl (by first | exact Or.inl rfl | exact Or.inr rfl) (cv_frz (cv_lst (pe_lst (ca_cons (pa_cons (cv_frz (cv_lst (pe_lst (ca_nil pa_nil)))) (ca_nil pa_nil))))))))
    (cs_seq (pss_cons (cs_forO (on_N 3) (ps_for (passes_of rfl) rfl (ci_any (pi_any (cv_var (pv 0)))) (cg_name (by decide) (pg_name (i := 3) sc_law_sets.nd rfl (by first | exact Or.inl rfl | exact Or.inr rfl)))
    (pss_one (cs_if (ps_if (ct_op op_eqK_ok (pt_cmpR (op_eqK (hu_of hr)) (cv_var (pv 3)) (cv_var (pv 1)) (nomark _)))
    (pss_one (cs_setcompF (on_N 4) (by decide) (ps_setLc (i := 2) (own := [("_law_some", 4)]) rfl sc_law_sets.nd rfl rfl (sw_true rfl rfl rfl (by decide +kernel)) (ci_any (pi_any (cv_var (pv 2)))) (blkOk_by (N := N_law_sets) (sc := defScope s_law_sets) (own := [("_law_some", 4)]) (by decide +kernel)) (fun _ _ _ _ _ => (cg_name (by decide) (pg_name (i := 4) sc_law_sets.nd rfl (by first | exact Or.inl rfl | exact Or.inr rfl)))) (fun _ _ _ _ _ => cts_yes) (fun _ _ _ _ _ => (cv_frz (cv_op op_add2_ok (pe_op op_addV (cv_var (pv 4)) (cv_lst (pe_lst (ca_cons (pa_cons (cv_var (pv 3)) (ca_nil pa_nil)))))))))))) (pss_one (cs_set (by decide) (ps_set (i := 2) sc_law_sets.nd rfl (by first | exact Or.inl rfl | exact Or.inr rfl) (cv_frz (cv_op op_add2_ok (pe_op op_addV (cv_var (pv 2)) (cv_comp (on_N 4) (pe_lc (own := [("_law_some", 4)]) rfl sc_law_sets.nd (ci_any (pi_any (cv_var (pv 2)))) (blkOk_by (N := N_law_sets) (sc := defScope s_law_sets) (own := [("_law_some", 4)]) (by decide +kernel)) (fun _ _ _ _ _ => (cg_name (by decide) (pg_name (i := 4) sc_law_sets.nd rfl (by first | exact Or.inl rfl | exact Or.inr rfl)))) (fun _ _ _ _ _ => cts_yes) (fun _ _ _ _ _ => (cv_frz (cv_op op_add2_ok (pe_op op_addV (cv_var (pv 4)) (cv_lst (pe_lst (ca_cons (pa_cons (cv_var (pv 3)) (ca_nil pa_nil))))))))))))))))))))))
    (pss_one (cs_ret (ps_ret (cv_var (pv 2)))))))))), body_ok rfl h⟩
theorem ok_law_low (T : Txt K mg) : FnOk P w K mg base (L2.CX P w) 1 (He.fAd K ("_law_low", none)) (fdA K ("_law_low", none)) ["_law_top", "_law_bottom"] (spM K m_law_low) :=
  FunD.ok (F_law_low T) sc_law_low (fun _ _ _ _ h => len_body h) fun cdv A outer s H vs Q E hr h => ⟨RS K (fun _ => E) [0, 1] c_law_low, (by unfold c_law_low; exact (cs_seq (pss_cons (cs_par (by decide) (by decide) (ps_par (i := 2) (j := 3) rfl sc_law_low.nd rfl rfl (by decide) rfl rfl (ca_cons (pa_cons (cv_cb op_abs_ok (pe_callB call_absU (by rfl) (T_free T 14) (by decide +kernel) (ca_cons (pa_cons (cv_var (pv 0)) (ca_nil pa_nil))))) (ca_cons (pa_cons (cv_cb op_abs_ok (pe_callB call_absU (by rfl) (T_free T 14) (by decide +kernel) (ca_cons (pa_cons (cv_var (pv 1)) (ca_nil pa_nil))))) (ca_nil pa_nil))))) (by rfl)))
    (cs_seq (pss_cons (cs_while (ps_while (passes_of rfl) (ct_op op_gt_ok (pt_cmpR op_gtU (cv_var (pv 3)) (cv_c (.int _) pe_int) (nomark _)))
    (pss_one (cs_par (by decide) (by decide) (ps_par (i := 2) (j := 3) rfl sc_law_low.nd rfl rfl (by decide) rfl rfl (ca_cons (pa_cons (cv_var (pv 3)) (ca_cons (pa_cons (cv_op op_mod_ok (pe_op op_modU (cv_var (pv 2)) (cv_var (pv 3)))) (ca_nil pa_nil))))) (by rfl))))))
    (cs_seq (pss_cons (cs_if (ps_if (ct_op op_lt_ok (pt_cmpR op_ltU (cv_var (pv 1)) (cv_c (.int _) pe_int) (nomark _)))
    (pss_one (cs_set (by decide) (ps_set (i := 2) sc_law_low.nd rfl (by first | exact Or.inl rfl | exact Or.inr rfl) (cv_op op_sub_ok (pe_op op_subU (cv_c (.int _) pe_int) (cv_var (pv 2))))))) cs_nil))
    (pss_one (cs_ret (ps_ret (cv_tup (pe_tup (ca_cons (pa_cons (cv_op op_fdiv_ok (pe_op op_fdivU (cv_var (pv 0)) (cv_var (pv 2)))) (ca_cons (pa_cons (cv_op op_fdiv_ok (pe_op op_fdivU (cv_var (pv 1)) (cv_var (pv 2)))) (ca_nil pa_nil))))))))))))))))), body_ok rfl h⟩
theorem ok_law_add (T : Txt K mg) : FnOk P w K mg base (L2.CX P w) 2 (He.fAd K ("_law_add", none)) (fdA K ("_law_add", none)) ["_law_one", "_law_other"] (spM K m_law_add) :=
  FunD.ok (F_law_add T) sc_law_add (fun _ _ _ _ h => len_body h) fun cdv A outer s H vs Q E hr h => ⟨RS K (fun _ => E) [0, 1] c_law_add, (by unfold c_law_add; exact (pss_one (cs_ret (ps_ret (cv_call .nil (pe_call (ok_law_low T) (hr.mono (by decide)) rfl (T_glo T 26) (k_law_low T) (b_law_low T) .nil pX (ca_cons (pa_cons (cv_frz (cv_op op_add2_ok (pe_op op_addV (cv_op op_mul2_ok (pe_op op_mulV (cv_op op_ix_ok (pe_ix (ix_U (hu_of hr)) (cv_var (pv 0)) (cv_c (.int _) pe_int) (fun _ _ => rfl))) (cv_op op_ix_ok (pe_ix (ix_U (hu_of hr)) (cv_var (pv 1)) (cv_c (.int _) pe_int) (fun _ _ => rfl))))) (cv_op op_mul2_ok (pe_op op_mulV (cv_op op_ix_ok (pe_ix (ix_U (hu_of hr)) (cv_var (pv 1)) (cv_c (.int _) pe_int) (fun _ _ => rfl))) (cv_op op_ix_ok (pe_ix (ix_U (hu_of hr)) (cv_var (pv 0)) (cv_c (.int _) pe_int) (fun _ _ => rfl)))))))) (ca_cons (pa_cons (cv_frz (cv_op op_mul2_ok (pe_op op_mulV (cv_op op_ix_ok (pe_ix (ix_U (hu_of hr)) (cv_var (pv 0)) (cv_c (.int _) pe_int) (fun _ _ => rfl))) (cv_op op_ix_ok (pe_ix (ix_U (hu_of hr)) (cv_var (pv 1)) (cv_c (.int _) pe_int) (fun _ _ => rfl)))))) (ca_nil pa_nil))))))))))), body_ok rfl h⟩
theorem ok_law_round_bound (T : Txt K mg) : FnOk P w K mg base (L2.CX P w) 3 (He.fAd K ("_law_round_bound", none)) (fdA K ("_law_round_bound", none)) ["_law_order", "_law_name"] (spM K m_law_round_bound) :=
  FunD.ok (F_law_round_bound T) sc_law_round_bound (fun _ _ _ _ h => len_body h) fun cdv A outer s H vs Q E hr h => ⟨RS K (fun _ => E) [0, 1] c_law_round_bound, (by unfold c_law_round_bound; exact (cs_seq (pss_cons (cs_asg (on_T1 (on_cons (on_N 2) (on_cons (on_N 3) on_nil))) (ps_asg (cv_tup (pe_tup (ca_cons (pa_cons (cv_tup (pe_tup (ca_cons (pa_cons (cv_c (.int _) pe_int) (ca_cons (pa_cons (cv_c (.int _) pe_int) (ca_nil pa_nil))))))) (ca_cons (pa_cons (cv_tup (pe_tup (ca_cons (pa_cons (cv_c (.int _) pe_int) (ca_cons (pa_cons (cv_c (.int _) pe_int) (ca_nil pa_nil))))))) (ca_nil pa_nil))))))) (cg_tup (pg_seqT rfl (cgs_cons (pgs_cons (cg_name (by decide) (pg_name (i := 2) sc_law_round_bound.nd rfl (by first | exact Or.inl rfl | exact Or.inr rfl))) (cgs_cons (pgs_cons (cg_name (by decide) (pg_name (i := 3) sc_law_round_bound.nd rfl (by first | exact Or.inl rfl | exact Or.inr rfl))) (cgs_nil pgs_nil)))))))))
    (cs_seq (pss_cons (cs_for (on_N 4) (ps_for (passes_of rfl) rfl (ci_any (pi_any (cv_call .nil (pe_call (ok_law_sets T) (hr.mono (by decide)) rfl (T_glo T 25) (k_law_sets T) (b_law_sets T) .nil pX (ca_cons (pa_cons (cv_var (pv 0)) (ca_cons (pa_cons (cv_var (pv 1)) (ca_nil pa_nil))))))))) (cg_name (by decide) (pg_name (i := 4) sc_law_round_bound.nd rfl (by first | exact Or.inl rfl | exact Or.inr rfl)))
    (cs_seq (pss_cons (cs_set (by decide) (ps_set (i := 5) sc_law_round_bound.nd rfl (by first | exact Or.inl rfl | exact Or.inr rfl) (cv_frz (cv_bm op_index_ok (pe_bm PySem.F.plainAttrs_list PySem.F.slot_list_index PySem.F.type_list_index (mt_indexD (hu_of hr)) (cv_var (pv 4)) (ca_cons (pa_cons (cv_var (pv 1)) (ca_nil pa_nil))))))))
    (cs_seq (pss_cons (cs_set (by decide) (ps_set (i := 2) sc_law_round_bound.nd rfl (by first | exact Or.inl rfl | exact Or.inr rfl) (cv_frz (cv_call .nil (pe_call (ok_law_add T) (hr.mono (by decide)) rfl (T_glo T 27) (k_law_add T) (b_law_add T) .nil pX (ca_cons (pa_cons (cv_var (pv 2)) (ca_cons (pa_cons (cv_tup (pe_tup (ca_cons (pa_cons (cv_op op_sub_ok (pe_op op_subU (cv_op op_sub_ok (pe_op op_subU (cv_cb op_len2_ok (pe_callB call_lenW (by rfl) (T_free T 2) (by decide +kernel) (ca_cons (pa_cons (cv_var (pv 4)) (ca_nil pa_nil))))) (cv_c (.int _) pe_int))) (cv_var (pv 5)))) (ca_cons (pa_cons (cv_cb op_len2_ok (pe_callB call_lenW (by rfl) (T_free T 2) (by decide +kernel) (ca_cons (pa_cons (cv_var (pv 4)) (ca_nil pa_nil))))) (ca_nil pa_nil))))))) (ca_nil pa_nil))))))))))
    (pss_one (cs_set (by decide) (ps_set (i := 3) sc_law_round_bound.nd rfl (by first | exact Or.inl rfl | exact Or.inr rfl) (cv_frz (cv_call .nil (pe_call (ok_law_add T) (hr.mono (by decide)) rfl (T_glo T 27) (k_law_add T) (b_law_add T) .nil pX (ca_cons (pa_cons (cv_var (pv 3)) (ca_cons (pa_cons (cv_tup (pe_tup (ca_cons (pa_cons (cv_var (pv 5)) (ca_cons (pa_cons (cv_cb op_len2_ok (pe_callB call_lenW (by rfl) (T_free T 2) (by decide +kernel) (ca_cons (pa_cons (cv_var (pv 4)) (ca_nil pa_nil))))) (ca_nil pa_nil))))))) (ca_nil pa_nil)))))))))))))))))
    (pss_one (cs_ret (ps_ret (cv_tup (pe_tup (ca_cons (pa_cons (cv_var (pv 2)) (ca_cons (pa_cons (cv_var (pv 3)) (ca_nil pa_nil))))))))))))))), body_ok rfl h⟩
theorem ok_law_kinds (T : Txt K mg) : FnOk P w K mg base (L2.CX P w) 1 (He.fAd K ("_law_kinds", none)) (fdA K ("_law_kinds", none)) ["_law_error"] (spM K m_law_kinds) :=
  FunD.ok (F_law_kinds T) sc_law_kinds (fun _ _ _ _ h => len_body h) fun cdv A outer s H vs Q E hr h => ⟨RS K (fun _ => E) [0] c_law_kinds, (by unfold c_law_kinds; exact (cs_seq (pss_cons (cs_set (by decide) (ps_set (i := 1) sc_law_kinds.nd rfl (by first | exact Or.inl rfl | exact Or.inr rfl) (cv_frz (cv_lst (pe_lst (ca_cons (pa_cons (cv_cb (op_isiX_ok (xm2 T) (xc2 T)) (pe_callB call_isiX (by rfl) (T_free T 11) (by decide +kernel) (ca_cons (pa_cons (cv_var (pv 0)) (ca_cons (pa_cons (cv_c (.obj _) (pe_glob (v := .ref (He.ga K "NoKind")) rfl (T_glo T 29) rfl)) (ca_nil pa_nil))))))) (ca_cons (pa_cons (cv_cb (op_isiX_ok (xm2 T) (xc2 T)) (pe_callB call_isiX (by rfl) (T_free T 11) (by decide +kernel) (ca_cons (pa_cons (cv_var (pv 0)) (ca_cons (pa_cons (cv_c (.obj _) (pe_glob (v := .ref (He.ga K "Nought")) rfl (T_glo T 30) rfl)) (ca_nil pa_nil))))))) (ca_cons (pa_cons (cv_cb (op_isiX_ok (xm2 T) (xc2 T)) (pe_callB call_isiX (by rfl) (T_free T 11) (by decide +kernel) (ca_cons (pa_cons (cv_var (pv 0)) (ca_cons (pa_cons (cv_c (.obj _) (pe_glob (v := .ref (He.ga K "NoShare")) rfl (T_glo T 31) rfl)) (ca_nil pa_nil))))))) (ca_cons (pa_cons (cv_cb (op_isiX_ok (xm2 T) (xc2 T)) (pe_callB call_isiX (by rfl) (T_free T 11) (by decide +kernel) (ca_cons (pa_cons (cv_var (pv 0)) (ca_cons (pa_cons (cv_c (.obj _) (pe_glob (v := .ref (He.ga K "Uneven")) rfl (T_glo T 32) rfl)) (ca_nil pa_nil))))))) (ca_nil pa_nil))))))))))))))
    (cs_seq (pss_cons (cs_set (by decide) (ps_set (i := 1) sc_law_kinds.nd rfl (by first | exact Or.inl rfl | exact Or.inr rfl) (cv_frz (cv_op op_add2_ok (pe_op op_addV (cv_var (pv 1)) (cv_lst (pe_lst (ca_cons (pa_cons (cv_cb (op_isiX_ok (xm2 T) (xc2 T)) (pe_callB call_isiX (by rfl) (T_free T 11) (by decide +kernel) (ca_cons (pa_cons (cv_var (pv 0)) (ca_cons (pa_cons (cv_c (.obj _) (pe_glob (v := .ref (He.ga K "BadName")) rfl (T_glo T 33) rfl)) (ca_nil pa_nil))))))) (ca_cons (pa_cons (cv_cb (op_isiX_ok (xm2 T) (xc2 T)) (pe_callB call_isiX (by rfl) (T_free T 11) (by decide +kernel) (ca_cons (pa_cons (cv_var (pv 0)) (ca_cons (pa_cons (cv_c (.obj _) (pe_glob (v := .ref (He.ga K "NoNumber")) rfl (T_glo T 34) rfl)) (ca_nil pa_nil))))))) (ca_cons (pa_cons (cv_cb (op_isiX_ok (xm2 T) (xc2 T)) (pe_callB call_isiX (by rfl) (T_free T 11) (by decide +kernel) (ca_cons (pa_cons (cv_var (pv 0)) (ca_cons (pa_cons (cv_c (.obj _) (pe_glob (v := .ref (He.ga K "NoRide")) rfl (T_glo T 35) rfl)) (ca_nil pa_nil))))))) (ca_nil pa_nil))))))))))))))
    (cs_seq (pss_cons (cs_set (by decide) (ps_set (i := 1) sc_law_kinds.nd rfl (by first | exact Or.inl rfl | exact Or.inr rfl) (cv_frz (cv_op op_add2_ok (pe_op op_addV (cv_var (pv 1)) (cv_lst (pe_lst (ca_cons (pa_cons (cv_cb (op_isiX_ok (xm2 T) (xc2 T)) (pe_callB call_isiX (by rfl) (T_free T 11) (by decide +kernel) (ca_cons (pa_cons (cv_var (pv 0)) (ca_cons (pa_cons (cv_c (.obj _) (pe_glob (v := .ref (He.ga K "NoText")) rfl (T_glo T 36) rfl)) (ca_nil pa_nil))))))) (ca_cons (pa_cons (cv_cb (op_isiX_ok (xm2 T) (xc2 T)) (pe_callB call_isiX (by rfl) (T_free T 11) (by decide +kernel) (ca_cons (pa_cons (cv_var (pv 0)) (ca_cons (pa_cons (cv_c (.obj _) (pe_glob (v := .ref (He.ga K "NoName")) rfl (T_glo T 8) rfl)) (ca_nil pa_nil))))))) (ca_cons (pa_cons (cv_cb (op_isiX_ok (xm2 T) (xc2 T)) (pe_callB call_isiX (by rfl) (T_free T 11) (by decide +kernel) (ca_cons (pa_cons (cv_var (pv 0)) (ca_cons (pa_cons (cv_c (.obj _) (pe_glob (v := .ref (He.ga K "NoDay")) rfl (T_glo T 37) rfl)) (ca_nil pa_nil))))))) (ca_nil pa_nil))))))))))))))
    (cs_seq (pss_cons (cs_set (by decide) (ps_set (i := 1) sc_law_kinds.nd rfl (by first | exact Or.inl rfl | exact Or.inr rfl) (cv_frz (cv_op op_add2_ok (pe_op op_addV (cv_var (pv 1)) (cv_lst (pe_lst (ca_cons (pa_cons (cv_cb (op_isiX_ok (xm2 T) (xc2 T)) (pe_callB call_isiX (by rfl) (T_free T 11) (by decide +kernel) (ca_cons (pa_cons (cv_var (pv 0)) (ca_cons (pa_cons (cv_c (.obj _) (pe_glob (v := .ref (He.ga K "NoSeats")) rfl (T_glo T 38) rfl)) (ca_nil pa_nil))))))) (ca_cons (pa_cons (cv_cb (op_isiX_ok (xm2 T) (xc2 T)) (pe_callB call_isiX (by rfl) (T_free T 11) (by decide +kernel) (ca_cons (pa_cons (cv_var (pv 0)) (ca_cons (pa_cons (cv_c (.obj _) (pe_glob (v := .ref (He.ga K "TooMany")) rfl (T_glo T 39) rfl)) (ca_nil pa_nil))))))) (ca_cons (pa_cons (cv_cb (op_isiX_ok (xm2 T) (xc2 T)) (pe_callB call_isiX (by rfl) (T_free T 11) (by decide +kernel) (ca_cons (pa_cons (cv_var (pv 0)) (ca_cons (pa_cons (cv_c (.obj _) (pe_glob (v := .ref (He.ga K "Taken")) rfl (T_glo T 40) rfl)) (ca_nil pa_nil))))))) (ca_nil pa_nil))))))))))))))
    (cs_seq (pss_cons (cs_set (by decide) (ps_set (i := 1) sc_law_kinds.nd rfl (by first | exact Or.inl rfl | exact Or.inr rfl) (cv_frz (cv_op op_add2_ok (pe_op op_addV (cv_var (pv 1)) (cv_lst (pe_lst (ca_cons (pa_cons (cv_cb (op_isiX_ok (xm2 T) (xc2 T)) (pe_callB call_isiX (by rfl) (T_free T 11) (by decide +kernel) (ca_cons (pa_cons (cv_var (pv 0)) (ca_cons (pa_cons (cv_c (.obj _) (pe_glob (v := .ref (He.ga K "NoRule")) rfl (T_glo T 41) rfl)) (ca_nil pa_nil))))))) (ca_cons (pa_cons (cv_cb (op_isiX_ok (xm2 T) (xc2 T)) (pe_callB call_isiX (by rfl) (T_free T 11) (by decide +kernel) (ca_cons (pa_cons (cv_var (pv 0)) (ca_cons (pa_cons (cv_c (.obj _) (pe_glob (v := .ref (He.ga K "NothingDone")) rfl (T_glo T 42) rfl)) (ca_nil pa_nil))))))) (ca_cons (pa_cons (cv_cb (op_isiX_ok (xm2 T) (xc2 T)) (pe_callB call_isiX (by rfl) (T_free T 11) (by decide +kernel) (ca_cons (pa_cons (cv_var (pv 0)) (ca_cons (pa_cons (cv_c (.obj _) (pe_glob (v := .ref (He.ga K "NoRow")) rfl (T_glo T 43) rfl)) (ca_nil pa_nil))))))) (ca_nil pa_nil))))))))))))))
    (cs_seq (pss_cons (cs_set (by decide) (ps_set (i := 2) sc_law_kinds.nd rfl (by first | exact Or.inl rfl | exact Or.inr rfl) (cv_frz (cv_bm op_split_ok (pe_bm PySem.F.plainAttrs_str PySem.F.slot_str_split PySem.F.type_str_split mt_split (cv_c (.str _) pe_str) (ca_cons (pa_cons (cv_c (.str _) pe_str) (ca_nil pa_nil))))))))
    (cs_seq (pss_cons (cs_setcompF (on_T1 (on_cons (on_N 5) (on_cons (on_N 6) on_nil))) (by decide) (ps_setLc (i := 3) (own := [("_law_word", 5), ("_law_so", 6)]) rfl sc_law_kinds.nd rfl rfl (sw_true rfl rfl rfl (by decide +kernel)) (ci_zip (pi_zip (by rfl) (T_free T 44) (pa_cons (cv_var (pv 2)) (pa_cons (cv_var (pv 1)) pa_nil)))) (blkOk_by (N := N_law_kinds) (sc := defScope s_law_kinds) (own := [("_law_word", 5), ("_law_so", 6)]) (by decide +kernel)) (fun _ _ _ _ _ => (cg_tup (pg_seqT rfl (cgs_cons (pgs_cons (cg_name (by decide) (pg_name (i := 5) sc_law_kinds.nd rfl (by first | exact Or.inl rfl | exact Or.inr rfl))) (cgs_cons (pgs_cons (cg_name (by decide) (pg_name (i := 6) sc_law_kinds.nd rfl (by first | exact Or.inl rfl | exact Or.inr rfl))) (cgs_nil pgs_nil)))))))) (fun _ _ _ _ _ => (pts_one (ct_trv (pt_trv (cv_var (pv 6)))))) (fun _ _ _ _ _ => (cv_var (pv 5)))))
    (cs_seq (pss_cons (cs_set (by decide) (ps_set (i := 4) sc_law_kinds.nd rfl (by first | exact Or.inl rfl | exact Or.inr rfl) (cv_frz (cv_lst (pe_lst (ca_cons (pa_cons (cv_cb (op_isiX_ok (xm2 T) (xc2 T)) (pe_callB call_isiX (by rfl) (T_free T 11) (by decide +kernel) (ca_cons (pa_cons (cv_var (pv 0)) (ca_cons (pa_cons (cv_c (.ty _) (pe_bltn (v := .ty "TypeError") rfl (T_free T 45) (by decide +kernel) rfl)) (ca_nil pa_nil))))))) (ca_cons (pa_cons (cv_cb (op_isiX_ok (xm2 T) (xc2 T)) (pe_callB call_isiX (by rfl) (T_free T 11) (by decide +kernel) (ca_cons (pa_cons (cv_var (pv 0)) (ca_cons (pa_cons (cv_c (.ty _) (pe_bltn (v := .ty "ZeroDivisionError") rfl (T_free T 46) (by decide +kernel) rfl)) (ca_nil pa_nil))))))) (ca_cons (pa_cons (cv_cb (op_isiX_ok (xm2 T) (xc2 T)) (pe_callB call_isiX (by rfl) (T_free T 11) (by decide +kernel) (ca_cons (pa_cons (cv_var (pv 0)) (ca_cons (pa_cons (cv_c (.ty _) (pe_bltn (v := .ty "ArithmeticError") rfl (T_free T 47) (by decide +kernel) rfl)) (ca_nil pa_nil))))))) (ca_nil pa_nil))))))))))))
    (cs_seq (pss_cons (cs_set (by decide) (ps_set (i := 4) sc_law_kinds.nd rfl (by first | exact Or.inl rfl | exact Or.inr rfl) (cv_frz (cv_op op_add2_ok (pe_op op_addV (cv_var (pv 4)) (cv_lst (pe_lst (ca_cons (pa_cons (cv_cb (op_isiX_ok (xm2 T) (xc2 T)) (pe_callB call_isiX (by rfl) (T_free T 11) (by decide +kernel) (ca_cons (pa_cons (cv_var (pv 0)) (ca_cons (pa_cons (cv_c (.ty _) (pe_bltn (v := .ty "ValueError") rfl (T_free T 48) (by decide +kernel) rfl)) (ca_nil pa_nil))))))) (ca_cons (pa_cons (cv_cb (op_isiX_ok (xm2 T) (xc2 T)) (pe_callB call_isiX (by rfl) (T_free T 11) (by decide +kernel) (ca_cons (pa_cons (cv_var (pv 0)) (ca_cons (pa_cons (cv_c (.ty _) (pe_bltn (v := .ty "KeyError") rfl (T_free T 7) (by decide +kernel) rfl)) (ca_nil pa_nil))))))) (ca_cons (pa_cons (cv_cb (op_isiX_ok (xm2 T) (xc2 T)) (pe_callB call_isiX (by rfl) (T_free T 11) (by decide +kernel) (ca_cons (pa_cons (cv_var (pv 0)) (ca_cons (pa_cons (cv_c (.ty _) (pe_bltn (v := .ty "LookupError") rfl (T_free T 49) (by decide +kernel) rfl)) (ca_nil pa_nil))))))) (ca_nil pa_nil))))))))))))))
    (cs_seq (pss_cons (cs_set (by decide) (ps_set (i := 4) sc_law_kinds.nd rfl (by first | exact Or.inl rfl | exact Or.inr rfl) (cv_frz (cv_op op_add2_ok (pe_op op_addV (cv_var (pv 4)) (cv_lst (pe_lst (ca_cons (pa_cons (cv_cb (op_isiX_ok (xm2 T) (xc2 T)) (pe_callB call_isiX (by rfl) (T_free T 11) (by decide +kernel) (ca_cons (pa_cons (cv_var (pv 0)) (ca_cons (pa_cons (cv_c (.ty _) (pe_bltn (v := .ty "IndexError") rfl (T_free T 50) (by decide +kernel) rfl)) (ca_nil pa_nil))))))) (ca_cons (pa_cons (cv_cb (op_isiX_ok (xm2 T) (xc2 T)) (pe_callB call_isiX (by rfl) (T_free T 11) (by decide +kernel) (ca_cons (pa_cons (cv_var (pv 0)) (ca_cons (pa_cons (cv_c (.ty _) (pe_bltn (v := .ty "OverflowError") rfl (T_free T 51) (by decide +kernel) rfl)) (ca_nil pa_nil))))))) (ca_cons (pa_cons (cv_cb (op_isiX_ok (xm2 T) (xc2 T)) (pe_callB call_isiX (by rfl) (T_free T 11) (by decide +kernel) (ca_cons (pa_cons (cv_var (pv 0)) (ca_cons (pa_cons (cv_c (.ty _) (pe_bltn (v := .ty "RuntimeError") rfl (T_free T 52) (by decide +kernel) rfl)) (ca_nil pa_nil))))))) (ca_nil pa_nil))))))))))))))
    (pss_one (cs_ret (ps_ret (cv_tup (pe_tup (ca_cons (pa_cons (cv_var (pv 3)) (ca_cons (pa_cons (cv_frz (cv_op op_add2_ok (pe_op op_addV (cv_var (pv 4)) (cv_lst (pe_lst (ca_cons (pa_cons (cv_cb (op_isiX_ok (xm2 T) (xc2 T)) (pe_callB call_isiX (by rfl) (T_free T 11) (by decide +kernel) (ca_cons (pa_cons (cv_var (pv 0)) (ca_cons (pa_cons (cv_c (.ty _) (pe_bltn (v := .ty "NotImplementedError") rfl (T_free T 53) (by decide +kernel) rfl)) (ca_nil pa_nil))))))) (ca_nil pa_nil)))))))) (ca_nil pa_nil))))))))))))))))))))))))))))))), body_ok rfl h⟩
theorem ok_law_bases (T : Txt K mg) : FnOk P w K mg base (L2.CX P w) 1 (He.fAd K ("_law_bases", none)) (fdA K ("_law_bases", none)) ["_law_word"] (spM K m_law_bases) :=
  FunD.ok (F_law_bases T) sc_law_bases (fun _ _ _ _ h => len_body h) fun cdv A outer s H vs Q E hr h => ⟨RS K (fun _ => E) [0] c_law_bases, (by unfold c_law_bases; exact (cs_seq (pss_cons (cs_set (by decide) (ps_set (i := 1) sc_law_bases.nd rfl (by first | exact Or.inl rfl | exact Or.inr rfl) (cv_disp (pe_disp (pps_cons (cv_c (.str _) pe_str) (cv_frz (cv_lst (pe_lst (ca_cons (pa_cons (cv_c (.int _) pe_int) (ca_nil pa_nil)))))) (pps_cons (cv_c (.str _) pe_str) (cv_frz (cv_lst (pe_lst (ca_cons (pa_cons (cv_c (.int _) pe_int) (ca_cons (pa_cons (cv_c (.int _) pe_int) (ca_nil pa_nil)))))))) (pps_cons (cv_c (.str _) pe_str) (cv_frz (cv_lst (pe_lst (ca_cons (pa_cons (cv_c (.int _) pe_int) (ca_nil pa_nil)))))) (pps_cons (cv_c (.str _) pe_str) (cv_frz (cv_lst (pe_lst (ca_cons (pa_cons (cv_c (.int _) pe_int) (ca_nil pa_nil)))))) (pps_cons (cv_c (.str _) pe_str) (cv_frz (cv_lst (pe_lst (ca_cons (pa_cons (cv_c (.int _) pe_int) (ca_cons (pa_cons (cv_c (.int _) pe_int) (ca_nil pa_nil)))))))) (pps_cons (cv_c (.str _) pe_str) (cv_frz (cv_lst (pe_lst (ca_cons (pa_cons (cv_c (.int _) pe_int) (ca_nil pa_nil)))))) (pps_cons (cv_c (.str _) pe_str) (cv_frz (cv_lst (pe_lst (ca_cons (pa_cons (cv_c (.int _) pe_int) (ca_cons (pa_cons (cv_c (.int _) pe_int) (ca_nil pa_nil)))))))) pps_nil))))))) (by rfl) (by rfl) (fun z => by cases z) (by decide)))))
    (cs_seq (pss_cons (cs_drop (ps_expr (cv_muZ op_update_ok opUpdate_node (pe_bm PySem.F.plainAttrs_dict PySem.F.slot_dict_update PySem.F.type_dict_update mt_update (cv_var (pv 1)) (ca_cons (pa_cons (cv_frz (cv_disp (pe_disp (pps_cons (cv_c (.str _) pe_str) (cv_frz (cv_lst (pe_lst (ca_cons (pa_cons (cv_c (.int _) pe_int) (ca_cons (pa_cons (cv_c (.int _) pe_int) (ca_nil pa_nil)))))))) (pps_cons (cv_c (.str _) pe_str) (cv_frz (cv_lst (pe_lst (ca_cons (pa_cons (cv_c (.int _) pe_int) (ca_nil pa_nil)))))) (pps_cons (cv_c (.str _) pe_str) (cv_frz (cv_lst (pe_lst (ca_cons (pa_cons (cv_c (.int _) pe_int) (ca_cons (pa_cons (cv_c (.int _) pe_int) (ca_nil pa_nil)))))))) (pps_cons (cv_c (.str _) pe_str) (cv_frz (cv_lst (pe_lst (ca_nil pa_nil)))) (pps_cons (cv_c (.str _) pe_str) (cv_frz (cv_lst (pe_lst (ca_nil pa_nil)))) pps_nil))))) (by rfl) (by rfl) (fun z => by cases z) (by decide)))) (ca_nil pa_nil)))))))
    (pss_one (cs_ret (ps_ret (cv_comp (on_N 2) (pe_lc (own := [("_law_k", 2)]) rfl sc_law_bases.nd (ci_rng1 (pi_range1 rfl (T_free T 4) (ca_cons (pa_cons (cv_c (.int _) pe_int) (ca_nil pa_nil))))) (blkOk_by (N := N_law_bases) (sc := defScope s_law_bases) (own := [("_law_k", 2)]) (by decide +kernel)) (fun _ _ _ _ _ => (cg_name (by decide) (pg_name (i := 2) sc_law_bases.nd rfl (by first | exact Or.inl rfl | exact Or.inr rfl)))) (fun _ _ _ _ _ => cts_yes) (fun _ _ _ _ _ => (cv_op op_in_ok (pe_cmpR (op_inU (hu_of hr)) (cv_var (pv 2)) (cv_dget2 (pe_dget2 (hu1_of hr) (cv_var (pv 1)) (cv_var (pv 0)) (cv_frz (cv_lst (pe_lst (ca_cons (pa_cons (cv_c (.int _) pe_int) (ca_nil pa_nil)))))) ⟨attrBase_of rfl, by rfl, by rfl, by rfl⟩)) (by rfl)))))))))))))), body_ok rfl h⟩
theorem ok_law_refused (T : Txt K mg) : FnOk P w K mg base (L2.CX P w) 6 (He.fAd K ("_law_refused", none)) (fdA K ("_law_refused", none)) ["_law_order", "_law_name"] (spM K m_law_refused) :=
  FunD.ok (F_law_refused T) sc_law_refused (fun _ _ _ _ h => len_body h) fun cdv A outer s H vs Q E hr h => ⟨RS K (fun _ => E) [0, 1] c_law_refused, (by unfold c_law_refused; exact (cs_seq (pss_cons (cs_set (by decide) (ps_set (i := 2) sc_law_refused.nd rfl (by first | exact Or.inl rfl | exact Or.inr rfl) (cv_c .non pe_non)))
    (cs_seq (pss_cons (cs_tryC rfl rfl sc_law_refused.nd rfl tX (xm2 T) (by intro k hk i hi; simp only [List.mem_cons, List.not_mem_nil, or_false] at hk; (repeat (first | (rcases hk with rfl | hk; (first | (cases hi; done) | (cases hi; decide))) | (subst hk; first | (cases hi; done) | (cases hi; decide))))) (fun W pn xe tk po => (pss_one (cs_drop (ps_expr (cv_callE .nil (pe_callSD (ok_round_bound T) (hr.mono (by decide)) rfl (T_glo T 23) (k_round_bound T) (b_round_bound T) .nil (fun σ => passAt tk σ) (ca_cons (pa_cons (cv_var (pv 0)) (ca_cons (pa_cons (cv_var (pv 1)) (ca_nil pa_nil)))))))))))
    (.named (ds := [(.obj "NoName")]) (test_one (names_own (c := "NoName") rfl (T_glo T 8) (by decide))) rfl rfl (fun _ _ => (pss_one (cs_set (by decide) (ps_set (i := 2) sc_law_refused.nd rfl (by first | exact Or.inl rfl | exact Or.inr rfl) (cv_var (pv 3))))))
      .nil))
    (cs_seq (pss_cons (cs_if (ps_if (ct_op op_is_ok (pt_cmpR op_isU (cv_var (pv 2)) (cv_c .non pe_non) (nomark _)))
    (pss_one (cs_ret (ps_ret (cv_c .non pe_non)))) cs_nil))
    (cs_seq (pss_cons (cs_asg (on_T1 (on_cons (on_N 4) (on_cons (on_N 5) on_nil))) (ps_asg (cv_frz (cv_call .nil (pe_call (ok_law_kinds T) (hr.mono (by decide)) rfl (T_glo T 54) (k_law_kinds T) (b_law_kinds T) .nil pX (ca_cons (pa_cons (cv_var (pv 2)) (ca_nil pa_nil)))))) (cg_tup (pg_seqT rfl (cgs_cons (pgs_cons (cg_name (by decide) (pg_name (i := 4) sc_law_refused.nd rfl (by first | exact Or.inl rfl | exact Or.inr rfl))) (cgs_cons (pgs_cons (cg_name (by decide) (pg_name (i := 5) sc_law_refused.nd rfl (by first | exact Or.inl rfl | exact Or.inr rfl))) (cgs_nil pgs_nil)))))))))
    (pss_one (cs_ret (ps_ret (cv_tup (pe_tup (ca_cons (pa_cons (cv_var (pv 4)) (ca_cons (pa_cons (cv_un (op_fldX_ok (xf2 T)) (pe_fldX (cv_var (pv 2)) (attrBase_of rfl))) (ca_cons (pa_cons (cv_op op_eqK_ok (pe_cmpR (op_eqK (hu_of hr)) (cv_var (pv 5)) (cv_call .nil (pe_call (ok_law_bases T) (hr.mono (by decide)) rfl (T_glo T 55) (k_law_bases T) (b_law_bases T) .nil pX (ca_cons (pa_cons (cv_c (.str _) pe_str) (ca_nil pa_nil))))) (nomark _))) (ca_nil pa_nil))))))))))))))))))))), body_ok rfl h⟩
theorem ok_law (T : Txt K mg) : FnG P w K mg base (L2.CX P w) 11 (He.fAd K ("law", none)) (fdA K ("law", none)) ["_law_script"] (spM K m_law) :=
  fun_okG (F_law T) sc_law (fun _ _ _ _ h => len_body h) fun cdv A outer s H vs Q E hG hr h => ⟨RS K (fun _ => E) [0] c_law, (by unfold c_law; exact (cs_seq (pss_cons (cs_set (by decide) (ps_set (i := 1) sc_law.nd rfl (by first | exact Or.inl rfl | exact Or.inr rfl) (cv_call .nil (pe_call (ok_law_held T) (hr.mono (by decide)) rfl (T_glo T 1) (k_law_held T) (b_law_held T) .nil pX (ca_cons (pa_cons (cv_var (pv 0)) (ca_nil pa_nil)))))))
    (cs_seq (pss_cons (cs_set (by decide) (ps_set (i := 2) sc_law.nd rfl (by first | exact Or.inl rfl | exact Or.inr rfl) (cv_frz (cv_call .nil (pe_call (ok_law_names T) (hr.mono (by decide)) rfl (T_glo T 5) (k_law_names T) (b_law_names T) .nil pX (ca_cons (pa_cons (cv_var (pv 1)) (ca_cons (pa_cons (cv_c (.int _) pe_int) (ca_nil pa_nil))))))))))
    (cs_seq (pss_cons (cs_for (on_N 3) (ps_for (passes_of rfl) rfl (ci_rng1 (pi_range1 rfl (T_free T 4) (ca_cons (pa_cons (cv_c (.int _) pe_int) (ca_nil pa_nil))))) (cg_name (by decide) (pg_name (i := 3) sc_law.nd rfl (by first | exact Or.inl rfl | exact Or.inr rfl)))
    (cs_seq (pss_cons (cs_set (by decide) (ps_set (i := 4) sc_law.nd rfl (by first | exact Or.inl rfl | exact Or.inr rfl) (cv_cb op_tupx_ok (pe_callTy call_tupX (by rfl) (T_free T 6) (by decide +kernel) (ca_cons (pa_cons (cv_sl (pe_slice sl_W (cv_var (pv 2)) (co_no po_none) (co_part (po_some (cv_op op_add2_ok (pe_op op_addV (cv_c (.int _) pe_int) (cv_call .nil (pe_call (ok_law_draw T) (hr.mono (by decide)) rfl (T_glo T 3) (k_law_draw T) (b_law_draw T) .nil pX (ca_cons (pa_cons (cv_var (pv 1)) (ca_cons (pa_cons (cv_op op_ix_ok (pe_ix (ix_U (hu_of hr)) (cv_lst (pe_lst (ca_cons (pa_cons (cv_c (.int _) pe_int) (ca_cons (pa_cons (cv_c (.int _) pe_int) (ca_nil pa_nil))))))) (cv_var (pv 3)) (fun _ _ => rfl))) (ca_nil pa_nil))))))))))))) (ca_nil pa_nil)))))))
    (cs_seq (pss_cons (cs_for (on_N 5) (ps_for (passes_of rfl) rfl (ci_any (pi_any (cv_wk (cv_var (pv 4))))) (cg_name (by decide) (pg_name (i := 5) sc_law.nd rfl (by first | exact Or.inl rfl | exact Or.inr rfl)))
    (cs_seq (pss_cons (cs_set (by decide) (ps_set (i := 6) sc_law.nd rfl (by first | exact Or.inl rfl | exact Or.inr rfl) (cv_frz (cv_call .nil (pe_call (ok_round_bound T) (hr.mono (by decide)) rfl (T_glo T 23) (k_round_bound T) (b_round_bound T) .nil pX (ca_cons (pa_cons (cv_var (pv 4)) (ca_cons (pa_cons (cv_var (pv 5)) (ca_nil pa_nil))))))))))
    (cs_seq (pss_cons (cs_if (ps_if (PW.pt (cw_or (pw_or (ct_not (pt_not (ct_trv (pt_trv (cv_cb (op_isi_ok (cls_ok T)) (pe_callB call_isiW (by rfl) (T_free T 11) (by decide +kernel) (ca_cons (pa_cons (cv_var (pv 6)) (ca_cons (pa_cons (cv_c (.ty _) (pe_bltn (v := .ty "tuple") rfl (T_free T 6) (by decide +kernel) rfl)) (ca_nil pa_nil))))))))))) (pw_or1 (ct_op op_neK_ok (pt_cmpR (op_neK (hu_of hr)) (cv_cb op_len2_ok (pe_callB call_lenW (by rfl) (T_free T 2) (by decide +kernel) (ca_cons (pa_cons (cv_var (pv 6)) (ca_nil pa_nil))))) (cv_c (.int _) pe_int) (nomark _)))))))
    (pss_one (cs_ret (ps_ret (cv_c (.bl _) pe_bl)))) cs_nil))
    (pss_one (cs_if (ps_if (ct_op op_neK_ok (pt_cmpR (op_neK (hu_of hr)) (cv_cb op_tupof_ok (pe_callTy call_tupU (by rfl) (T_free T 6) (by decide +kernel) (ca_cons (pa_cons (cv_comp (on_N 8) (pe_lc (own := [("_law_share", 8)]) rfl sc_law.nd (ci_any (pi_any (cv_var (pv 6)))) (blkOk_by (N := N_law) (sc := defScope s_law) (own := [("_law_share", 8)]) (by decide +kernel)) (fun _ _ _ _ _ => (cg_name (by decide) (pg_name (i := 8) sc_law.nd rfl (by first | exact Or.inl rfl | exact Or.inr rfl)))) (fun _ _ _ _ _ => cts_yes) (fun _ _ _ _ _ => (cv_frz (cv_call .nil (pe_call (ok_law_pair T) (hr.mono (by decide)) rfl (T_glo T 24) (k_law_pair T) (b_law_pair T) .nil passL (ca_cons (pa_cons (cv_var (pv 8)) (ca_nil pa_nil))))))))) (ca_nil pa_nil))))) (cv_call .nil (pe_call (ok_law_round_bound T) (hr.mono (by decide)) rfl (T_glo T 28) (k_law_round_bound T) (b_law_round_bound T) .nil pX (ca_cons (pa_cons (cv_wk (cv_var (pv 4))) (ca_cons (pa_cons (cv_var (pv 5)) (ca_nil pa_nil))))))) (nomark _)))
    (pss_one (cs_ret (ps_ret (cv_c (.bl _) pe_bl)))) cs_nil)))))))))
    (pss_one (cs_for (on_N 7) (ps_for (passes_of rfl) rfl (ci_any (pi_any (cv_lst (pe_lst (ca_cons (pa_cons (cv_op op_ix_ok (pe_ix (ix_U (hu_of hr)) (cv_var (pv 2)) (cv_c (.int _) pe_int) (fun _ _ => rfl))) (ca_cons (pa_cons (cv_c (.str _) pe_str) (ca_cons (pa_cons (cv_c .non pe_non) (ca_cons (pa_cons (cv_c (.int _) pe_int) (ca_cons (pa_cons (cv_op op_add2_ok (pe_op op_addV (cv_op op_ix_ok (pe_ix (ix_U (hu_of hr)) (cv_wk (cv_var (pv 4))) (cv_c (.int _) pe_int) (fun _ _ => rfl))) (cv_c (.str _) pe_str))) (ca_nil pa_nil))))))))))))))) (cg_name (by decide) (pg_name (i := 7) sc_law.nd rfl (by first | exact Or.inl rfl | exact Or.inr rfl)))
    (pss_one (cs_if (ps_if (ct_op op_neK_ok (pt_cmpR (op_neK (hu_of hr)) (cv_cb op_reprO_ok (pe_callB (cr_reprP (cr_reprD hG (hu_of hr)) (cr_reprN hG (hr.mono (by decide)))) (by rfl) (T_free T 57) (by decide +kernel) (ca_cons (pa_cons (cv_call .nil (pe_call (ok_law_refused T) (hr.mono (by decide)) rfl (T_glo T 56) (k_law_refused T) (b_law_refused T) .nil pX (ca_cons (pa_cons (cv_var (pv 4)) (ca_cons (pa_cons (cv_var (pv 7)) (ca_nil pa_nil))))))) (ca_nil pa_nil))))) (cv_cb op_reprO_ok (pe_callB (cr_reprP (cr_reprD hG (hu_of hr)) (cr_reprN hG (hr.mono (by decide)))) (by rfl) (T_free T 57) (by decide +kernel) (ca_cons (pa_cons (cv_tup (pe_tup (ca_cons (pa_cons (cv_frz (cv_lst (pe_lst (ca_cons (pa_cons (cv_c (.str _) pe_str) (ca_nil pa_nil)))))) (ca_cons (pa_cons (cv_var (pv 7)) (ca_cons (pa_cons (cv_c (.bl _) pe_bl) (ca_nil pa_nil))))))))) (ca_nil pa_nil))))) (nomark _)))
    (pss_one (cs_ret (ps_ret (cv_c (.bl _) pe_bl)))) cs_nil))))))))))))
    (pss_one (cs_ret (ps_ret (cv_c (.bl _) pe_bl))))))))))), body_ok rfl h⟩
end
end Lw
namespace Lw
open PySem PySem.Spec PyProof.Rows L2 Rt Mi
local macro_rules | `(tactic| walk_at "ev") => `(tactic| simp (config := { maxSteps := 4000000 }) only [e_bo, e_bs, e_be, e_oo, e_os, e_oe, e_qn, e_qr, e_qb, e_qc, e_qe, e_qs, e_ln, e_lr, e_lb, e_lc, e_le, e_ls, e_seq, e_next, e_drop, e_ret, e_ifS, e_cifS, e_never, e_set, e_cset, e_kset, e_setf, e_seto, e_setu, e_seta, e_kf, e_ko, e_ku, e_ka, e_asg, e_casg, e_gN, e_gT, e_gT1, e_gT1L, e_gs0, e_gs1, e_par, e_cpar, e_kparF, e_for, e_for0, e_for1, e_cfor, e_iseq, e_iseqL, e_iseqT, e_irng, e_rng1, e_rng2, e_vr, e_vf, e_vo, e_va, e_vu, e_vn, e_cc, e_nil, e_cons, e_ccons, e_ccons2, e_valf, e_valo, e_vala, e_alf, e_alo, e_vl0, e_vl1, e_orS, e_orN, e_f1, e_ck1, e_cf2, e_ck2, e_ckN, e_f2, e_fN, e_k1, e_k2, e_kN, e_fz, e_cfrz, e_kff, e_kfo, e_kfa, e_kfzo, e_kfzf, e_fl0, e_flf, e_flo, e_tup, e_lst, e_kdt, e_kdl, e_test, e_trv, e_kt, e_bl, e_tb, e_ti, e_tn, e_tl, e_tt, e_and, e_cand, e_cor, e_cif, e_or, e_not, e_if, e_yes, e_andV, e_candV, e_ktru, e_avt, e_avf, e_add, e_addL, e_sub, e_mul, e_fdiv, e_mod, e_pow, e_lt, e_gt, e_ge, e_opNot, e_abs, e_lenL, e_lenT, e_list, e_listT, e_tupL, e_tupT, e_eq, e_ne, e_eqI, e_eqS, e_isN, e_ixL, e_ixT, e_ixD, e_keyI, e_keyS, e_partZ, e_partO, e_flZ, e_flO, e_sl, e_csl1, e_csl2, e_csl3, e_noP, e_part, e_kpart, e_ksl, e_slL, e_slS, e_disp, e_cdisp, e_pairs0, e_pairs1, e_cps1, e_cps2, e_cps3, e_kdispD, e_kdD, e_kv0, e_kv1, e_isiT, e_isiO, e_kdN, e_kdB, e_kdI, e_kdS, e_kdT, e_kdL, e_kdK, e_kdX, e_is1, e_is2, e_is3, e_is4, e_bint, e_bbool, e_bstr, e_btup, e_blst, e_bdic, e_fld, e_sfld, e_csf1, e_csf2, e_ksfld, e_ksf, e_put0, e_put1, e_gSub, e_gS1, e_cst1, e_cst2, e_kst, e_kst1, e_kst2, e_stD, e_call, e_ccall, e_kcall, e_kc1, e_kc2, e_kc2e, e_kc2s, e_kc3, e_le0, e_lef, e_leo, e_lea, e_leao, e_leaf, e_ba0, e_ba1, e_baf, e_bao, e_baa, e_baz, e_bau, e_bag, e_ref, e_reo, e_reu, e_rea, e_reao, e_reaf, e_na0, e_naf, e_nao, e_nau, e_meth, e_cmeth, e_cmeth2, e_kmeth, e_km1, e_make, e_cmake, e_mkM, e_mk1, e_mk1e, e_comp, e_ccomp, e_crest, e_kcomp, e_cD0, e_cD1, e_cDn, e_cD3, e_cD2, e_nox, e_wi0, e_wi1, e_rs0, e_rs1, e_okW, e_okWu, e_okWf, e_body, e_fin, e_fir, e_fie, e_fis, e_frf, e_fro, e_fra, e_fif, e_fio, e_ou0, e_ou1, e_ouf, e_ouo, e_ouu, e_oua, e_oug, e_getK0, e_getK1, e_putD, e_atI0, e_atI1, e_atI2, e_atI3, e_raise, e_craise, e_krf, e_kro, e_wn, e_wb, e_wc, e_wr, e_in, e_notin, e_inK, e_inS, e_isDk, e_isDk1, e_dget2, e_cget1, e_cget2, e_cget3, e_opGet, e_opGetS, e_opGetN, e_joinL, e_joinT, e_split, e_append, e_bm, e_cbm1, e_cbm2, e_tyS, e_tyS1, e_tyDl, e_tyDs, e_mu, e_cmu1, e_cmu2, e_kmu1, e_kmu2, e_idict, e_cdict, e_lenD, e_lenL2, e_lenT2, e_lenR2, e_lenS2, e_list2D, e_list2L, e_list2T, e_iany, e_anyL, e_anyT, e_anyD, e_anyS, e_izip, e_czip1, e_czip2, e_eqKK, e_neKK, e_eqK1, e_eqK2, e_eqK3, e_eqK4, e_eqK5, e_eqK6, e_neK1, e_neK2, e_neK3, e_neK4, e_neK5, e_neK6, e_mul2S, e_mul2I, e_mul2L, e_add2T, e_add2I, e_add2S, e_add2L, e_stL0, e_stL1, e_stL2, e_atI4, e_atI5, e_cut0, e_cutTo, e_cutTon, e_cutFr, e_cutFrn, e_cutFrs, e_cutMi, e_cutMin, e_slS2, e_ixS, e_nonN, e_nonL, e_nonT, e_nonI, e_nonS, e_nonB, e_nonD, e_nonC, e_kparO, e_forO, e_kforO, e_kforF, e_kforL, e_kforA, e_repr, e_index, e_tryC, e_tryCn, e_tryCr, e_tryCb, e_tryCc, e_tryCe, e_pickC0, e_pickC1, e_pickt, e_pickf, e_runC0, e_runC1, e_w0n, e_w0r, e_w0b, e_w0c, e_w1n, e_w1r, e_w1b, e_w1c, e_fldX, e_isiXo, e_isiXt, e_isiXl, e_update, e_mrg0, e_mrg1, e_mud, e_cmud1, e_ownDk, e_ownDk1, e_tupX, e_fWk, e_kwk, e_wkX, e_wkK, e_wkT, e_wks0, e_wks1, e_idxX, e_kidX0, e_kidX, e_opIdxX, 
  Option.bind_some, Option.bind_none, Option.map_some, Option.map_none, Option.getD_some, Option.getD_none, Option.toList_some, Option.isNone_none, Option.isNone_some,
  List.getElem?_cons_zero, List.getElem?_cons_succ, List.getElem?_nil, List.set_cons_zero, List.set_cons_succ, List.set_nil, List.map_cons, List.map_nil, List.length_cons, List.length_nil, List.nil_append, List.cons_append, List.append_nil, List.replicate_succ, List.replicate_zero, List.take_succ_cons, List.take_zero, List.take_nil, List.drop_succ_cons, List.drop_zero, List.drop_nil, List.mem_cons, List.not_mem_nil, List.all_cons, List.all_nil, List.any_cons, List.any_nil, List.lookup_cons, List.lookup_nil, List.nodup_cons, List.nodup_nil,
  Nat.zero_add, Nat.add_zero, Nat.reduceAdd, Nat.reduceSub, Nat.reduceLT, Nat.reduceLeDiff, Nat.reduceEqDiff, Nat.reduceBEq, Nat.zero_le, Nat.succ_ne_zero, Nat.zero_ne_one, Nat.one_ne_zero, Nat.lt_irrefl, Int.lt_irrefl, Int.reduceLT, Int.reduceLE, Int.reduceEq, Int.reduceNe, Int.reduceAdd, Int.reduceSub, Int.reduceNeg, Int.reduceMul, Int.reduceToNat, Int.cast_ofNat_Int, Int.natCast_zero, Int.natCast_one, Int.reducePow, if_true, if_false, reduceIte, reduceCtorEq, or_false, or_true, true_or, false_or, and_true, true_and, and_false, false_and, and_self, decide_true, decide_false, decide_eq_true_eq, Bool.not_true, Bool.not_false, Bool.and_true, Bool.true_and, Bool.and_false, Bool.false_and, Bool.and_self, Bool.or_true, Bool.true_or, Bool.or_false, Bool.false_or, not_true_eq_false, not_false_eq_true, Bool.false_eq_true, Bool.true_eq_false, Bool.not_eq_eq_eq_not, Bool.bne_false, not_true, not_false_iff,
  sz0, sz1, sz2, sz3, sz4, sz5, sz6, sz7, sz8, sz9, sz10, sz11, sz12, sz13, sz14, sz15, sy0, sy1, sy2, sy3, sy4, sy5, sy6, sy7, sy8, sy9, sy10, sy11, sy12, sy13, sy14, sy15, String.reduceEq, String.reduceBEq, str_eq, str_beq, Sum.inr.injEq, Sum.inl.injEq, beq_self_eq_true, ne_eq, eq_self, Bool.not_eq_true, decide_not, Bt.isi, Decidable.not_not, cls, xcs])
local macro_rules | `(tactic| walk_at "ev*") => `(tactic| simp (config := { maxSteps := 4000000 }) only [e_bo, e_bs, e_be, e_oo, e_os, e_oe, e_qn, e_qr, e_qb, e_qc, e_qe, e_qs, e_ln, e_lr, e_lb, e_lc, e_le, e_ls, e_seq, e_next, e_drop, e_ret, e_ifS, e_cifS, e_never, e_set, e_cset, e_kset, e_setf, e_seto, e_setu, e_seta, e_kf, e_ko, e_ku, e_ka, e_asg, e_casg, e_gN, e_gT, e_gT1, e_gT1L, e_gs0, e_gs1, e_par, e_cpar, e_kparF, e_for, e_for0, e_for1, e_cfor, e_iseq, e_iseqL, e_iseqT, e_irng, e_rng1, e_rng2, e_vr, e_vf, e_vo, e_va, e_vu, e_vn, e_cc, e_nil, e_cons, e_ccons, e_ccons2, e_valf, e_valo, e_vala, e_alf, e_alo, e_vl0, e_vl1, e_orS, e_orN, e_f1, e_ck1, e_cf2, e_ck2, e_ckN, e_f2, e_fN, e_k1, e_k2, e_kN, e_fz, e_cfrz, e_kff, e_kfo, e_kfa, e_kfzo, e_kfzf, e_fl0, e_flf, e_flo, e_tup, e_lst, e_kdt, e_kdl, e_test, e_trv, e_kt, e_bl, e_tb, e_ti, e_tn, e_tl, e_tt, e_and, e_cand, e_cor, e_cif, e_or, e_not, e_if, e_yes, e_andV, e_candV, e_ktru, e_avt, e_avf, e_add, e_addL, e_sub, e_mul, e_fdiv, e_mod, e_pow, e_lt, e_gt, e_ge, e_opNot, e_abs, e_lenL, e_lenT, e_list, e_listT, e_tupL, e_tupT, e_eq, e_ne, e_eqI, e_eqS, e_isN, e_ixL, e_ixT, e_ixD, e_keyI, e_keyS, e_partZ, e_partO, e_flZ, e_flO, e_sl, e_csl1, e_csl2, e_csl3, e_noP, e_part, e_kpart, e_ksl, e_slL, e_slS, e_disp, e_cdisp, e_pairs0, e_pairs1, e_cps1, e_cps2, e_cps3, e_kdispD, e_kdD, e_kv0, e_kv1, e_isiT, e_isiO, e_kdN, e_kdB, e_kdI, e_kdS, e_kdT, e_kdL, e_kdK, e_kdX, e_is1, e_is2, e_is3, e_is4, e_bint, e_bbool, e_bstr, e_btup, e_blst, e_bdic, e_fld, e_sfld, e_csf1, e_csf2, e_ksfld, e_ksf, e_put0, e_put1, e_gSub, e_gS1, e_cst1, e_cst2, e_kst, e_kst1, e_kst2, e_stD, e_call, e_ccall, e_kcall, e_kc1, e_kc2, e_kc2e, e_kc2s, e_kc3, e_le0, e_lef, e_leo, e_lea, e_leao, e_leaf, e_ba0, e_ba1, e_baf, e_bao, e_baa, e_baz, e_bau, e_bag, e_ref, e_reo, e_reu, e_rea, e_reao, e_reaf, e_na0, e_naf, e_nao, e_nau, e_meth, e_cmeth, e_cmeth2, e_kmeth, e_km1, e_make, e_cmake, e_mkM, e_mk1, e_mk1e, e_comp, e_ccomp, e_crest, e_kcomp, e_cD0, e_cD1, e_cDn, e_cD3, e_cD2, e_nox, e_wi0, e_wi1, e_rs0, e_rs1, e_okW, e_okWu, e_okWf, e_body, e_fin, e_fir, e_fie, e_fis, e_frf, e_fro, e_fra, e_fif, e_fio, e_ou0, e_ou1, e_ouf, e_ouo, e_ouu, e_oua, e_oug, e_getK0, e_getK1, e_putD, e_atI0, e_atI1, e_atI2, e_atI3, e_raise, e_craise, e_krf, e_kro, e_wn, e_wb, e_wc, e_wr, e_in, e_notin, e_inK, e_inS, e_isDk, e_isDk1, e_dget2, e_cget1, e_cget2, e_cget3, e_opGet, e_opGetS, e_opGetN, e_joinL, e_joinT, e_split, e_append, e_bm, e_cbm1, e_cbm2, e_tyS, e_tyS1, e_tyDl, e_tyDs, e_mu, e_cmu1, e_cmu2, e_kmu1, e_kmu2, e_idict, e_cdict, e_lenD, e_lenL2, e_lenT2, e_lenR2, e_lenS2, e_list2D, e_list2L, e_list2T, e_iany, e_anyL, e_anyT, e_anyD, e_anyS, e_izip, e_czip1, e_czip2, e_eqKK, e_neKK, e_eqK1, e_eqK2, e_eqK3, e_eqK4, e_eqK5, e_eqK6, e_neK1, e_neK2, e_neK3, e_neK4, e_neK5, e_neK6, e_mul2S, e_mul2I, e_mul2L, e_add2T, e_add2I, e_add2S, e_add2L, e_stL0, e_stL1, e_stL2, e_atI4, e_atI5, e_cut0, e_cutTo, e_cutTon, e_cutFr, e_cutFrn, e_cutFrs, e_cutMi, e_cutMin, e_slS2, e_ixS, e_nonN, e_nonL, e_nonT, e_nonI, e_nonS, e_nonB, e_nonD, e_nonC, e_kparO, e_forO, e_kforO, e_kforF, e_kforL, e_kforA, e_repr, e_index, e_tryC, e_tryCn, e_tryCr, e_tryCb, e_tryCc, e_tryCe, e_pickC0, e_pickC1, e_pickt, e_pickf, e_runC0, e_runC1, e_w0n, e_w0r, e_w0b, e_w0c, e_w1n, e_w1r, e_w1b, e_w1c, e_fldX, e_isiXo, e_isiXt, e_isiXl, e_update, e_mrg0, e_mrg1, e_mud, e_cmud1, e_ownDk, e_ownDk1, e_tupX, e_fWk, e_kwk, e_wkX, e_wkK, e_wkT, e_wks0, e_wks1, e_idxX, e_kidX0, e_kidX, e_opIdxX, 
  Option.bind_some, Option.bind_none, Option.map_some, Option.map_none, Option.getD_some, Option.getD_none, Option.toList_some, Option.isNone_none, Option.isNone_some,
  List.getElem?_cons_zero, List.getElem?_cons_succ, List.getElem?_nil, List.set_cons_zero, List.set_cons_succ, List.set_nil, List.map_cons, List.map_nil, List.length_cons, List.length_nil, List.nil_append, List.cons_append, List.append_nil, List.replicate_succ, List.replicate_zero, List.take_succ_cons, List.take_zero, List.take_nil, List.drop_succ_cons, List.drop_zero, List.drop_nil, List.mem_cons, List.not_mem_nil, List.all_cons, List.all_nil, List.any_cons, List.any_nil, List.lookup_cons, List.lookup_nil, List.nodup_cons, List.nodup_nil,
  Nat.zero_add, Nat.add_zero, Nat.reduceAdd, Nat.reduceSub, Nat.reduceLT, Nat.reduceLeDiff, Nat.reduceEqDiff, Nat.reduceBEq, Nat.zero_le, Nat.succ_ne_zero, Nat.zero_ne_one, Nat.one_ne_zero, Nat.lt_irrefl, Int.lt_irrefl, Int.reduceLT, Int.reduceLE, Int.reduceEq, Int.reduceNe, Int.reduceAdd, Int.reduceSub, Int.reduceNeg, Int.reduceMul, Int.reduceToNat, Int.cast_ofNat_Int, Int.natCast_zero, Int.natCast_one, Int.reducePow, if_true, if_false, reduceIte, reduceCtorEq, or_false, or_true, true_or, false_or, and_true, true_and, and_false, false_and, and_self, decide_true, decide_false, decide_eq_true_eq, Bool.not_true, Bool.not_false, Bool.and_true, Bool.true_and, Bool.and_false, Bool.false_and, Bool.and_self, Bool.or_true, Bool.true_or, Bool.or_false, Bool.false_or, not_true_eq_false, not_false_eq_true, Bool.false_eq_true, Bool.true_eq_false, Bool.not_eq_eq_eq_not, Bool.bne_false, not_true, not_false_iff,
  sz0, sz1, sz2, sz3, sz4, sz5, sz6, sz7, sz8, sz9, sz10, sz11, sz12, sz13, sz14, sz15, sy0, sy1, sy2, sy3, sy4, sy5, sy6, sy7, sy8, sy9, sy10, sy11, sy12, sy13, sy14, sy15, String.reduceEq, String.reduceBEq, str_eq, str_beq, Sum.inr.injEq, Sum.inl.injEq, beq_self_eq_true, ne_eq, eq_self, Bool.not_eq_true, decide_not, Bt.isi, Decidable.not_not, cls, xcs, *])
/-- a text by its signs -/
abbrev tx (cs : List Nat) : Str := ⟨cs.toArray⟩
theorem tx_len (cs : List Nat) : (tx cs).length = cs.length := by simp [tx, Str.length]
theorem tx_app (a b : List Nat) : tx a ++ tx b = tx (a ++ b) := by
  show Str.append (tx a) (tx b) = tx (a ++ b)
  simp [Str.append, tx]
theorem tx_inj {a b : List Nat} (h : tx a = tx b) : a = b := by
  have := congrArg (fun z => z.cps.toList) h
  simpa [tx] using this
theorem tx_list (cs : List Nat) : (tx cs).cps.toList = cs := by simp [tx]
theorem tx_of (z : Str) : tx z.cps.toList = z := by simp [tx]
theorem tx_to {cs : List Nat} {n : Nat} : cutS (tx cs) none (some (n : Int)) = tx (cs.take n) := by rw [cutS_is, cut_to]
def NameCs (cs : List Nat) : Prop := 1 ≤ cs.length ∧ cs.length ≤ 8 ∧ ∀ c ∈ cs, 97 ≤ c ∧ c ≤ 122
def NameOk (z : Str) : Prop := NameCs z.cps.toList
def abc : List Nat := List.range' 97 26
theorem letters_is : Str.ofString "abcdefghijklmnopqrstuvwxyz" = tx abc := by decide +kernel
theorem abc_at {j : Nat} (h : j < 26) : atI abc (j : Int) = some (97 + j) := by
  refine atI_nat ?_
  unfold abc
  rw [List.getElem?_range' h, Nat.one_mul]
theorem join_ones (cs : List Nat) : Txt.join (Str.ofString "") (cs.map fun c => tx [c]) = tx cs := by
  have e0 : Str.ofString "" = tx [] := by decide +kernel
  rw [TL.join_eq, e0]
  induction cs with
  | nil => rfl
  | cons c r ih =>
    cases r with
    | nil => rfl
    | cons d r =>
      show tx [c] ++ tx [] ++ Str.join (tx []) ((d :: r).map fun c => tx [c]) = _
      rw [ih, tx_app, tx_app]
      simp
theorem q_is_whole (i : Int) : m_is_whole [.fz (.int i)] = .ret (.fz (.bl true)) [.fz (.int i)] := by
  unfold m_is_whole c_is_whole
  walk_at "ev"
theorem w_divisor : ∀ (y x : Nat), fWhile lt_divisor_1 lp_divisor_1 [.fz (.int (x : Nat)), .fz (.int (y : Nat))] = .nx [.fz (.int (Nat.gcd x y : Nat)), .fz (.int 0)] := by
  intro y
  induction y using Nat.strongRecOn with
  | ind y ih =>
    intro x
    rw [e_while]
    by_cases h : y = 0
    · subst h
      unfold lt_divisor_1
      walk_at "ev"
      simp [e_cwh]
    · have h1 : (0 : Int) < (y : Int) := by omega
      have h2 : ¬ ((y : Int) = 0) := by omega
      unfold lt_divisor_1
      walk_at "ev"
      simp only [e_cwh, h1, if_true, decide_true]
      conv => lhs; arg 1; unfold lp_divisor_1
      walk_at "ev*"
      rw [fmod_nat]
      have := ih (x % y) (Nat.mod_lt _ (by omega)) y
      rw [gcd_turn rfl] at this
      exact this
theorem q_divisor (a b : Int) : m_divisor [.fz (.int a), .fz (.int b)] = .ret (.fz (.int (Int.gcd a b : Nat))) [.un, .un] := by
  have := w_divisor b.natAbs a.natAbs
  unfold m_divisor c_divisor
  walk_at "ev*"
  rfl
abbrev shD (q : Rat) : D := .ins "Share" [("top", .int q.num), ("bottom", .int q.den)]
theorem q_Share_init {a b : Int} (h0 : b ≠ 0) (hb : b.natAbs < 2 ^ 9000) : m_Share_init [.ow .o1 (.ins "Share" []), .fz (.int a), .fz (.int b)] = .ret (.fz .non) [.ow .o1 (shD (Rat.divInt a b)), .fz (.int a), .fz (.int b)] := by
  have w1 := q_is_whole
  have w2 := q_divisor a b
  have hg0 : ((Int.gcd a b : Nat) : Int) ≠ 0 := by
    have := Int.gcd_pos_of_ne_zero_right a h0
    omega
  have hz : (((Int.gcd a b : Nat) : Int)).natAbs < 2 ^ 9000 := gcd_lt hb h0
  have p1 := part_top (a := a) h0
  have p2 := part_bot (a := a) h0
  unfold m_Share_init c_Share_init lp_Share_init_1
  by_cases hn : b < 0
  · rw [if_pos hn] at p1 p2
    have d1 : CDivZ a (0 - ((Int.gcd a b : Nat) : Int)) := divZ (b := 9000) (by omega) (by omega) (by decide) (by decide)
    have d2 : CDivZ b (0 - ((Int.gcd a b : Nat) : Int)) := divZ (b := 9000) (by omega) (by omega) (by decide) (by decide)
    clear hz hb
    walk_at "ev*"
  · rw [if_neg hn] at p1 p2
    have d1 : CDivZ a ((Int.gcd a b : Nat) : Int) := divZ (b := 9000) hg0 hz (by decide) (by decide)
    have d2 : CDivZ b ((Int.gcd a b : Nat) : Int) := divZ (b := 9000) hg0 hz (by decide) (by decide)
    clear hz hb
    walk_at "ev*"
theorem q_Share_plus {n m : Nat} {q r : Rat} (hq : RSz n q) (hr : RSz m r) (hn : n + m ≤ 9000) : m_Share_plus [.fz (shD q), .fz (shD r)] = .ret (.fz (shD (q + r))) [.fz (shD q), .fz (shD r)] := by
  have c1 : CMulW q.num (r.den : Int) := mulW hq.1 (dsz hr) (by omega)
  have c2 : CMulW r.num (q.den : Int) := mulW hr.1 (dsz hq) (by omega)
  have c3 : CMulW (q.den : Int) (r.den : Int) := mulW (dsz hq) (dsz hr) (by omega)
  have w := q_Share_init (a := q.num * (r.den : Int) + r.num * (q.den : Int)) (b := (q.den : Int) * (r.den : Int)) (Int.mul_ne_zero (den_ne q) (den_ne r)) (pow_le (wide_lt (dsz hq) (dsz hr)) hn)
  rw [add_eq] at w
  clear hq hr hn
  unfold m_Share_plus c_Share_plus
  walk_at "ev*"
abbrev PL := List (Str × Rat)
def getL (L : PL) (s : Str) : Option Rat := getK L s
def putL (L : PL) (s : Str) (q : Rat) : PL := putD L s q
def dkL (f : Rat → D) (L : PL) : List (Key × D) := L.map fun p => (.inr p.1, f p.2)
theorem getL_cons {s t : Str} {q : Rat} {L : PL} : getL ((t, q) :: L) s = if t = s then some q else getL L s := e_getK1
theorem putL_mem {L : PL} {s : Str} {q : Rat} {p : Str × Rat} (h : p ∈ putL L s q) : p ∈ L ∨ p = (s, q) := by
  unfold putL at h
  rw [e_putD] at h
  split at h
  · obtain ⟨y, m, e⟩ := List.mem_map.mp h
    split at e
    · rename_i hy
      right; rw [← e, hy]
    · left; rw [← e]; exact m
  · rcases List.mem_append.mp h with m | m
    · exact .inl m
    · exact .inr (List.mem_singleton.mp m)
theorem getL_mem : ∀ {L : PL} {s : Str} {q : Rat}, getL L s = some q → (s, q) ∈ L
  | [], _, _, h => by cases h
  | (t, r) :: L, s, q, h => by
    rw [getL_cons] at h
    split at h
    · rename_i e; cases h; rw [e]; exact List.mem_cons_self
    · exact List.mem_cons_of_mem _ (getL_mem h)
theorem getL_some : ∀ {L : PL} {p : Str × Rat}, p ∈ L → ∃ q, getL L p.1 = some q
  | (t, r) :: L, p, h => by
    rw [getL_cons]
    by_cases e : t = p.1
    · exact ⟨r, by rw [if_pos e]⟩
    · rw [if_neg e]
      rcases List.mem_cons.mp h with rfl | h
      · exact absurd rfl e
      · exact getL_some h
/-- what is there, or nought -/
def gL (L : PL) (s : Str) : Rat := (getL L s).getD 0
theorem toPDs_strs : ∀ zs : List Str, toPDs (zs.map D.str) = some (zs.map PyData.str)
  | [] => rfl
  | z :: r => by
    show (toPD (.str z)).bind _ = _
    rw [toPDs_strs r]
    rfl
theorem ok_name {z : Str} (h : NameOk z) : PyData.strOk z = true := by
  unfold PyData.strOk
  rw [← Array.all_toList, List.all_eq_true]
  exact fun c m => decide_eq_true (by have := h.2.2 c m; omega)
theorem lay_strs : ∀ {zs : List Str}, (∀ z ∈ zs, NameOk z) → PyData.canLayAll0 (zs.map PyData.str) = true
  | [], _ => by simp [PyData.canLayAll0]
  | z :: r, h => by simp [PyData.canLayAll0, PyData.canLay0, ok_name (h z List.mem_cons_self), lay_strs fun x m => h x (List.mem_cons_of_mem _ m)]
theorem dep_strs : ∀ zs : List Str, PyData.depthAll (zs.map PyData.str) = 0
  | [] => by simp [PyData.depthAll]
  | z :: r => by simp [PyData.depthAll, PyData.depth, dep_strs r]
abbrev Dull (v : Sl) : Prop := ∀ i, Sl.kill i v = v
theorem fm_nonneg {a m : Int} (h : 0 < m) : 0 ≤ a.fmod m ∧ a.fmod m < m := by
  rw [Int.fmod_eq_emod_of_nonneg _ (by omega)]
  exact ⟨Int.emod_nonneg _ (by omega), Int.emod_lt_of_pos _ h⟩
theorem fd_nonneg {a m : Int} (h0 : 0 ≤ a) (h : 0 < m) : 0 ≤ a.fdiv m := by
  rw [Int.fdiv_eq_ediv_of_nonneg _ (by omega)]
  exact Int.ediv_nonneg h0 (by omega)
theorem divP {i j : Int} (h : 0 < j) (hb : j < 2 ^ 30) : CDivZ i j := divZ (b := 30) (by omega) (by omega) (by decide) (by decide)
/-- the dict of a script that is drawn from -/
abbrev penD (cs : List Int) (a l : Int) : D := .dk [(.inr "cells", .lst (cs.map .int)), (.inr "at", .int a), (.inr "left", .int l)]
def PenOk (n : Nat) (d : D) : Prop := ∃ cs a l, d = penD cs a l ∧ 0 ≤ a ∧ a ≤ n ∧ 0 ≤ l
theorem q_held (ns : List Int) : ∃ d, PenOk 0 d ∧ m_law_held [.fz (.scr ns)] = .ret (.ow .o1 d) [.fz (.scr ns)] := by
  refine ⟨_, ⟨cutD ns none (some 63), 0, 0, rfl, by decide, by decide, by decide⟩, ?_⟩
  unfold m_law_held c_law_held
  walk_at "ev"
theorem toPDs_ints : ∀ cs : List Int, toPDs (cs.map .int) = some (cs.map PyData.int)
  | [] => rfl
  | c :: r => by
    show (toPD (.int c)).bind _ = _
    rw [toPDs_ints r]
    rfl
theorem e_neNil (cs : List Int) : eqD (.lst (cs.map .int)) (.lst []) = some cs.isEmpty := by
  show ((toPDs (cs.map .int)).map PyData.list).bind (fun a => ((toPDs []).map PyData.list).bind fun b => if (SeqAt.shaped a && SeqAt.shaped b) = true then some (PyData.eqv a b) else none) = _
  rw [toPDs_ints]
  have e : toPDs [] = some [] := rfl
  rw [e]
  simp only [Option.map_some, Option.bind_some]
  have h2 : SeqAt.shaped (.list []) = true := by decide +kernel
  rw [sh_ints, h2, eqv_nil]
  rfl
def DrawOk (n : Nat) (m : Int) (o : Fo) : Prop := ∃ r d', o = .ret (.fz (.int r)) [.ow .o1 d', .fz (.int m)] ∧ 0 ≤ r ∧ r < m ∧ PenOk n d'
theorem q_draw {n : Nat} {d : D} {m : Int} (h : PenOk n d) (hn : n ≤ 2 ^ 40) (m0 : 0 < m) (m1 : m < 2 ^ 30) : DrawOk (n + 1) m (m_law_draw [.ow .o1 d, .fz (.int m)]) := by
  obtain ⟨cs, a, l, rfl, ha0, ha1, hl0⟩ := h
  have hm : ¬ m = 0 := by omega
  have d3 : ∀ y, CDivZ y m := fun y => divP m0 m1
  have fin : ∀ (x l' : Int), 0 ≤ l' → DrawOk (n + 1) m (.ret (.fz (.int (x.fmod m))) [.ow .o1 (penD cs (a + 1) l'), .fz (.int m)]) := fun x l' hl' =>
    ⟨_, _, rfl, (fm_nonneg m0).1, (fm_nonneg m0).2, cs, a + 1, l', rfl, by omega, by omega, hl'⟩
  by_cases hl : 0 < l
  · unfold m_law_draw c_law_draw
    have : DrawOk (n + 1) m (.ret (.fz (.int (l.fmod m))) [.ow .o1 (penD cs a (l.fdiv m)), .fz (.int m)]) :=
      ⟨_, _, rfl, (fm_nonneg m0).1, (fm_nonneg m0).2, cs, a, _, rfl, ha0, by omega, fd_nonneg hl0 m0⟩
    clear ha0 ha1 hl0 hn m0 m1 fin
    walk_at "ev*"
  have z1 : ∀ c : Int, CMulW (c.fmod 2147483587) 40692 := fun c => by
    have := fm_nonneg (a := c) (m := 2147483587) (by decide)
    exact mulW (n := 32) (m := 16) (by omega) (by decide) (by decide)
  have z2 : CMulW 7907 a := mulW (n := 13) (m := 41) (by decide) (by omega) (by decide)
  have z3 : CMulW (7907 * a) a := mulW (n := 54) (m := 41) (by omega) (by omega) (by decide)
  have z4 : CMulW 104729 a := mulW (n := 17) (m := 41) (by decide) (by omega) (by decide)
  have z5 : ∀ c : Int, CMulW (c.fmod 2147483629) 48271 := fun c => by
    have := fm_nonneg (a := c) (m := 2147483629) (by decide)
    exact mulW (n := 31) (m := 16) (by omega) (by decide) (by decide)
  have d1 : ∀ y, CDivZ y 127 := fun y => divP (by decide) (by decide)
  have d2 : ∀ y, CDivZ y 89 := fun y => divP (by decide) (by decide)
  have p1 : CPow 10 18 := ⟨by decide, by decide, by decide⟩
  have en := e_neNil cs
  cases cs with
  | nil =>
    unfold m_law_draw c_law_draw
    have en : eqD (.lst []) (.lst []) = some true := e_neNil []
    have f0 := fun x => fin x l hl0
    clear ha0 ha1 hn m0 m1 hl0 fin
    walk_at "ev*"
    exact f0 _
  | cons c0 cs0 =>
    have hlen : 0 < (c0 :: cs0).length := Nat.succ_pos _
    generalize e : c0 :: cs0 = cs at *
    clear e
    have hb := fm_nonneg (a := a) (m := (cs.length : Int)) (by omega)
    have hne : ¬ (cs.length : Int) = 0 := by omega
    obtain ⟨c, hc⟩ : ∃ c : Int, atI (cs.map D.int) (a.fmod (cs.length : Int)) = some (.int c) := by
      obtain ⟨j, hj⟩ : ∃ j : Nat, a.fmod (cs.length : Int) = (j : Int) := ⟨(a.fmod (cs.length : Int)).toNat, by omega⟩
      have hjl : j < cs.length := by omega
      rw [hj]
      exact ⟨cs[j], atI_nat (by rw [List.getElem?_map, List.getElem?_eq_getElem hjl]; rfl)⟩
    have he : cs.isEmpty = false := by
      cases cs with
      | nil => exact absurd hlen (by decide)
      | cons => rfl
    have fin1 : 1000000000000000000 ≤ c → ∀ x : Int, DrawOk (n + 1) m (.ret (.fz (.int (x.fmod m))) [.ow .o1 (penD cs (a + 1) ((c - 1000000000000000000).fdiv m)), .fz (.int m)]) := fun h x => fin x _ (fd_nonneg (by omega) m0)
    have fin2 := fun x => fin x l hl0
    have ll : (List.map D.int cs).length = cs.length := List.length_map ..
    clear ha0 ha1 hn m0 m1 hb hlen fin hl0
    unfold m_law_draw c_law_draw
    by_cases hcc : 1000000000000000000 ≤ c
    · have fin1 := fin1 hcc
      by_cases hat : a < (cs.length : Int)
      · walk_at "ev*"
      · walk_at "ev*"
    · clear fin1
      walk_at "ev*"
theorem for_cons' {g : FG} {f : FS} {d : D} {ds : List D} {ss : List Sl} : forD g f (d :: ds) ss = (g (.fz d) ss).seq fun s => (f s).loop (forD g f ds) := rfl
theorem seq_nx' {ss : List Sl} {g : FS} : (So.nx ss).seq g = g ss := rfl
theorem loop_nx' {ss : List Sl} {g : FS} : (So.nx ss).loop g = g ss := rfl
theorem fseq_nx' {f g : FS} {ss s1 : List Sl} (h : f ss = .nx s1) : fSeq f g ss = g s1 := by
  show (f ss).seq g = _
  rw [h]; rfl
abbrev namesD (zs : List Str) : List D := zs.map .str
/-- a rule: its kind, its order, its grain -/
abbrev ruR (k : Str) (ord : List Str) (g : List D) : List D := .str k :: .tpx (namesD ord) :: g
abbrev ruD (k : Str) (ord : List Str) (g : List D) : D := .tup (ruR k ord g)
structure Tu where
  k : Str
  ord : List Str
  g : List D
  line : List Str
  owed : PL
  rd : List (List Key × Int)
  past : List Str
abbrev rdD (rd : List (List Key × Int)) : D := .dt (rd.map fun p => (p.1, D.int p.2))
abbrev owD (L : PL) : D := .dk (dkL (fun q => shD q) L)
abbrev tuF (r ln ow rd ps : D) : List (Str × D) := [("rule", r), ("line", ln), ("owed", ow), ("rounds", rd), ("past", ps)]
abbrev tuI (r ln ow rd ps : D) : D := .ins "Turns" (tuF r ln ow rd ps)
def Tu.d (t : Tu) : D := tuI (ruD t.k t.ord t.g) (.lst (namesD t.line)) (owD t.owed) (rdD t.rd) (.lst (namesD t.past))
/-- one who rides along: name, on, off -/
abbrev Fk := Str × Int × Int
structure Way where
  day : Int
  dr : Str
  folk : List Fk
  legs : Int
  worth : Int
  slow : List Str
structure Good (W : Way) : Prop where
  day : 0 ≤ W.day ∧ W.day ≤ 1000000
  dr : NameOk W.dr
  legs : 1 ≤ W.legs ∧ W.legs ≤ 12
  worth : 1 ≤ W.worth ∧ W.worth ≤ 1000
  most : W.folk.length ≤ 11
  nd : (W.dr :: W.folk.map (·.1)).Nodup
  names : ∀ f ∈ W.folk, NameOk f.1
  onoff : ∀ f ∈ W.folk, 0 ≤ f.2.1 ∧ f.2.1 < f.2.2 ∧ f.2.2 ≤ W.legs
  snd : W.slow.Nodup
  sin : ∀ z ∈ W.slow, z ∈ W.folk.map (·.1)
theorem sh_names {zs : List Str} (h : ∀ z ∈ zs, NameOk z) : SeqAt.shaped (.list (zs.map PyData.str)) = true := by
  show (PyData.canLay0 (.list (zs.map PyData.str)) && decide (PyData.depth (.list (zs.map PyData.str)) ≤ 64)) = true
  rw [Bool.and_eq_true]
  refine ⟨?_, decide_eq_true ?_⟩
  · simp only [PyData.canLay0]
    exact lay_strs h
  · simp only [PyData.depth, dep_strs]
    omega
theorem sh_name {z : Str} (h : NameOk z) : SeqAt.shaped (.str z) = true := by
  have h1 := lay_strs (zs := [z]) fun x m => by
    obtain rfl := List.mem_singleton.mp m
    exact h
  have h2 : (PyData.str z).canLay0 = true := by
    simp only [List.map_cons, List.map_nil, PyData.canLayAll0, Bool.and_true] at h1
    exact h1
  show (PyData.canLay0 (.str z) && decide (PyData.depth (.str z) ≤ 64)) = true
  rw [h2]
  simp [PyData.depth]
theorem leafVs_names : ∀ zs : List Str, leafVs (zs.map D.str) = some (zs.map V.str)
  | [] => rfl
  | z :: r => by
    show (leafV (.str z)).bind (fun a => (leafVs (r.map D.str)).bind fun b => some (a :: b)) = _
    rw [leafVs_names r]; rfl
theorem in_namesT (zs : List Str) (z : Str) : inD (.str z) (.tup (zs.map .str)) = some (decide (z ∈ zs)) := by
  show (leafV (.str z)).bind (fun a => (leafVs (zs.map D.str)).bind fun bs => some (inV a bs)) = _
  rw [leafVs_names]
  show some (inV (.str z) (zs.map V.str)) = _
  congr 1
  unfold inV
  rw [List.any_map, Bool.eq_iff_iff, List.any_eq_true, decide_eq_true_iff]
  constructor
  · rintro ⟨x, m, e⟩
    have : x = z := eq_of_beq (show (x == z) = true from e)
    exact this ▸ m
  · intro m
    exact ⟨z, m, show (z == z) = true from beq_self_eq_true z⟩
structure DayOk (ord rid : List Str) : Prop where
  ne : rid ≠ []
  nd : rid.Nodup
  sub : ∀ s ∈ rid, s ∈ ord
structure OrdOk (ord : List Str) : Prop where
  ok : ∀ z ∈ ord, NameOk z
  nd : ord.Nodup
  l0 : 1 ≤ ord.length
  l8 : ord.length ≤ 8
def ixS : List Str → Str → Nat
  | [], _ => 0
  | x :: r, s => if x = s then 0 else ixS r s + 1
theorem ixS_find {s : Str} : ∀ {ln : List Str}, s ∈ ln → (ln.findIdx? fun x => decide (x = s)) = some (ixS ln s)
  | [], h => nomatch h
  | x :: r, h => by
    rw [List.findIdx?_cons]
    unfold ixS
    by_cases q : x = s
    · rw [if_pos (by simpa using q), if_pos q]
    · rw [if_neg (by simpa using q), if_neg q]
      rcases List.mem_cons.mp h with z | h
      · exact absurd z.symm q
      · rw [ixS_find h]; rfl
theorem ixS_get {s : Str} : ∀ {ln : List Str}, s ∈ ln → ln[ixS ln s]? = some s
  | [], h => nomatch h
  | x :: r, h => by
    unfold ixS
    by_cases q : x = s
    · rw [if_pos q, q]; rfl
    · rw [if_neg q]
      rcases List.mem_cons.mp h with z | h
      · exact absurd z.symm q
      · exact ixS_get h
theorem index_names {ln : List Str} {s : Str} (h : ∀ z ∈ ln, NameOk z) (hs : s ∈ ln) (t u : Tg) : opIndex t (.lst (namesD ln)) [(u, .str s)] = some (.fz (.int (ixS ln s : Nat))) := by
  rw [e_index]
  show (some (PyData.str s)).bind _ = _
  rw [Option.bind_some, toPDs_strs, Option.bind_some, sh_name (h s hs), sh_names h, if_pos (show (true && true) = true from rfl), List.findIdx?_map]
  have e : ((fun z => PyData.eqv z (.str s)) ∘ PyData.str) = fun x => decide (x = s) := by
    funext x
    show PyData.eqv (.str x) (.str s) = _
    rw [Bool.eq_iff_iff]
    simp [PyData.eqv]
  rw [e, ixS_find hs]
  rfl
def Cr (b : Nat) (q : Rat) : Prop := ∃ k : Int, q = Rat.divInt k 840 ∧ k.natAbs ≤ b
theorem cr_mono {a b : Nat} {q : Rat} (h : Cr a q) (l : a ≤ b) : Cr b q := let ⟨k, e, n⟩ := h; ⟨k, e, Nat.le_trans n l⟩
theorem cr_add {a b : Nat} {q r : Rat} (h : Cr a q) (h' : Cr b r) : Cr (a + b) (q + r) := by
  obtain ⟨k, rfl, n⟩ := h
  obtain ⟨j, rfl, m⟩ := h'
  refine ⟨k + j, ?_, by omega⟩
  rw [Rat.divInt_eq_div, Rat.divInt_eq_div, Rat.divInt_eq_div, Rat.intCast_add]
  grind
theorem cr_zero : Cr 0 0 := ⟨0, by decide +kernel, by decide⟩
theorem cr_one : Cr 840 1 := ⟨840, by decide +kernel, by decide⟩
theorem cr_part : ∀ n ∈ List.range' 1 8, Cr 840 (Rat.divInt (-1) (n : Nat)) := by
  intro n m
  simp only [List.mem_range'_1] at m
  obtain ⟨h1, h2⟩ := m
  have : n = 1 ∨ n = 2 ∨ n = 3 ∨ n = 4 ∨ n = 5 ∨ n = 6 ∨ n = 7 ∨ n = 8 := by omega
  rcases this with rfl | rfl | rfl | rfl | rfl | rfl | rfl | rfl
  · exact ⟨-840, by decide +kernel, by decide⟩
  · exact ⟨-420, by decide +kernel, by decide⟩
  · exact ⟨-280, by decide +kernel, by decide⟩
  · exact ⟨-210, by decide +kernel, by decide⟩
  · exact ⟨-168, by decide +kernel, by decide⟩
  · exact ⟨-140, by decide +kernel, by decide⟩
  · exact ⟨-120, by decide +kernel, by decide⟩
  · exact ⟨-105, by decide +kernel, by decide⟩
theorem cr_sz {b : Nat} {q : Rat} (h : Cr b q) (hb : b < 2 ^ 40) : RSz 40 q := by
  obtain ⟨k, rfl, n⟩ := h
  exact rsz_divInt (by omega) (by decide) (by decide)
structure OwOk (b : Nat) (ord : List Str) (L : PL) : Prop where
  names : L.map (·.1) = ord
  cr : ∀ p ∈ L, Cr b p.2
theorem ow_get {b : Nat} {ord : List Str} {L : PL} (h : OwOk b ord L) {s : Str} (m : s ∈ ord) : getL L s = some (gL L s) ∧ Cr b (gL L s) := by
  rw [← h.names] at m
  obtain ⟨p, mp, rfl⟩ := List.mem_map.mp m
  obtain ⟨q, e⟩ := getL_some mp
  unfold gL
  rw [e]
  exact ⟨rfl, h.cr _ (getL_mem e)⟩
theorem ow_put {b c : Nat} {ord : List Str} {L : PL} (h : OwOk b ord L) {s : Str} (m : s ∈ ord) {q : Rat} (hq : Cr c q) (l : b ≤ c) : OwOk c ord (putL L s q) := by
  refine ⟨?_, fun p mp => ?_⟩
  · rw [← h.names] at m ⊢
    unfold putL putD
    rw [if_pos (by
      obtain ⟨p, mp, e⟩ := List.mem_map.mp m
      exact List.any_eq_true.mpr ⟨p, mp, decide_eq_true e⟩), List.map_map]
    refine List.map_congr_left fun p _ => ?_
    show (if p.1 = s then (p.1, q) else p).1 = p.1
    split <;> rfl
  · rcases putL_mem mp with mp | rfl
    · exact cr_mono (h.cr p mp) l
    · exact hq
/-- what each rider gives -/
def stepL (n : Nat) (L : PL) (s : Str) : PL := putL L s (gL L s + Rat.divInt (-1) (n : Nat))
def goneL (n : Nat) (rid : List Str) (b : Str) (L : PL) : PL := putL (rid.foldl (stepL n) L) b (gL (rid.foldl (stepL n) L) b + 1)
theorem step_ok {b n : Nat} {ord : List Str} (hn : 1 ≤ n ∧ n ≤ 8) : ∀ (rid : List Str) (L : PL), OwOk b ord L → (∀ s ∈ rid, s ∈ ord) → OwOk (b + 840 * rid.length) ord (rid.foldl (stepL n) L)
  | [], L, h, _ => h
  | s :: r, L, h, m => by
    have g := ow_get h (m s List.mem_cons_self)
    have h1 : OwOk (b + 840) ord (stepL n L s) := ow_put h (m s List.mem_cons_self) (cr_add g.2 (cr_part n (List.mem_range'_1.mpr ⟨hn.1, by omega⟩))) (by omega)
    have ih := step_ok (b := b + 840) hn r (stepL n L s) h1 fun t mt => m t (List.mem_cons_of_mem _ mt)
    rw [List.length_cons, show b + 840 * (r.length + 1) = b + 840 + 840 * r.length by omega]
    exact ih
theorem gone_ok {b n : Nat} {ord rid : List Str} {d : Str} {L : PL} (hn : 1 ≤ n ∧ n ≤ 8) (h : OwOk b ord L) (hr : ∀ s ∈ rid, s ∈ ord) (hl : rid.length ≤ 8) (hd : d ∈ ord) : OwOk (b + 7560) ord (goneL n rid d L) := by
  have h1 := step_ok hn rid L h hr
  exact ow_put h1 hd (cr_mono (cr_add (ow_get h1 hd).2 cr_one) (by omega)) (by omega)
theorem strsOf_names : ∀ zs : List Str, strsOf (namesD zs) = some zs
  | [] => rfl
  | z :: r => by
    have := strsOf_names r
    show (strOf (.str z)).bind (fun x => (strsOf (namesD r)).bind fun xs => some (x :: xs)) = _
    rw [this]; rfl
theorem idx_names {ln : List Str} {s : Str} (hs : s ∈ ln) (t : Tg) : opIdxX (namesD ln) [(t, .str s)] = some (.fz (.int (ixS ln s : Nat))) := by
  show (strsOf (namesD ln)).bind _ = _
  rw [strsOf_names, Option.bind_some, ixS_find hs]; rfl
/-- who is first -/
def ltK (a b : Int × Nat) : Prop := a.1 < b.1 ∨ (a.1 = b.1 ∧ a.2 < b.2)
instance : DecidableRel ltK := fun a b => by unfold ltK; exact inferInstance
theorem w_low : ∀ (y x : Nat) (a b : Sl), fWhile lt_law_low_1 lp_law_low_1 [.fz (.int p), .fz (.int q), .fz (.int (x : Nat)), .fz (.int (y : Nat))] = .nx [.fz (.int p), .fz (.int q), .fz (.int (Nat.gcd x y : Nat)), .fz (.int 0)] := by
  intro y
  induction y using Nat.strongRecOn with
  | ind y ih =>
    intro x _ _
    rw [e_while]
    by_cases h : y = 0
    · subst h
      unfold lt_law_low_1
      walk_at "ev"
      simp [e_cwh]
    · have h1 : (0 : Int) < (y : Int) := by omega
      have h2 : ¬ ((y : Int) = 0) := by omega
      unfold lt_law_low_1
      walk_at "ev"
      simp only [e_cwh, h1, if_true, decide_true]
      conv => lhs; arg 1; unfold lp_law_low_1
      walk_at "ev*"
      rw [fmod_nat]
      have := ih (x % y) (Nat.mod_lt _ (by omega)) y .un .un
      rw [gcd_turn rfl] at this
      exact this
abbrev prD (q : Rat) : D := .tup [.int q.num, .int q.den]
theorem q_low {a b : Int} (h0 : b ≠ 0) (hb : b.natAbs < 2 ^ 9000) : m_law_low [.fz (.int a), .fz (.int b)] = .ret (.fz (prD (Rat.divInt a b))) [.fz (.int a), .fz (.int b)] := by
  have w2 : fWhile lt_law_low_1 lp_law_low_1 [.fz (.int a), .fz (.int b), .fz (.int (a.natAbs : Nat)), .fz (.int (b.natAbs : Nat))] = .nx [.fz (.int a), .fz (.int b), .fz (.int (Int.gcd a b : Nat)), .fz (.int 0)] := w_low b.natAbs a.natAbs .un .un
  have hg0 : ((Int.gcd a b : Nat) : Int) ≠ 0 := by
    have := Int.gcd_pos_of_ne_zero_right a h0
    omega
  have hz : (((Int.gcd a b : Nat) : Int)).natAbs < 2 ^ 9000 := gcd_lt hb h0
  have p1 := part_top (a := a) h0
  have p2 := part_bot (a := a) h0
  unfold m_law_low c_law_low
  by_cases hn : b < 0
  · rw [if_pos hn] at p1 p2
    have d1 : CDivZ a (0 - ((Int.gcd a b : Nat) : Int)) := divZ (b := 9000) (by omega) (by omega) (by decide) (by decide)
    have d2 : CDivZ b (0 - ((Int.gcd a b : Nat) : Int)) := divZ (b := 9000) (by omega) (by omega) (by decide) (by decide)
    clear hz hb
    walk_at "ev*"
  · rw [if_neg hn] at p1 p2
    have d1 : CDivZ a ((Int.gcd a b : Nat) : Int) := divZ (b := 9000) hg0 hz (by decide) (by decide)
    have d2 : CDivZ b ((Int.gcd a b : Nat) : Int) := divZ (b := 9000) hg0 hz (by decide) (by decide)
    clear hz hb
    walk_at "ev*"
theorem q_add {n m : Nat} {a b c d : Int} (hb : b ≠ 0) (hd : d ≠ 0) (za : a.natAbs < 2 ^ n) (zb : b.natAbs < 2 ^ n) (zc : c.natAbs < 2 ^ m) (zd : d.natAbs < 2 ^ m) (h : n + m ≤ 9000) :
    m_law_add [.fz (.tup [.int a, .int b]), .fz (.tup [.int c, .int d])] = .ret (.fz (prD (Rat.divInt a b + Rat.divInt c d))) [.fz (.tup [.int a, .int b]), .fz (.tup [.int c, .int d])] := by
  have c1 : CMulW a d := mulW za zd (by omega)
  have c2 : CMulW c b := mulW zc zb (by omega)
  have c3 : CMulW b d := mulW zb zd (by omega)
  have w := q_low (a := a * d + c * b) (b := b * d) (Int.mul_ne_zero hb hd) (pow_le (wide_lt zb zd) h)
  have e : Rat.divInt (a * d + c * b) (b * d) = Rat.divInt a b + Rat.divInt c d := (Rat.divInt_add_divInt a c hb hd).symm
  rw [e] at w
  clear za zb zc zd h hb hd e
  unfold m_law_add c_law_add
  walk_at "ev*"
theorem q_pair (q : Rat) : m_law_pair [.fz (shD q)] = .ret (.fz (prD q)) [.fz (shD q)] := by
  unfold m_law_pair c_law_pair lp_law_pair_1
  walk_at "ev"
def stepS (s : Str) (F : List (List Str)) (o : Str) : List (List Str) := if o = s then F.map (· ++ [o]) else F ++ F.map (· ++ [o])
def setsS (s : Str) (ord : List Str) : List (List Str) := ord.foldl (stepS s) [[]]
def dblL : Nat → List Nat → List Nat
  | 0, L => L
  | n + 1, L => dblL n (L ++ L.map (· + 1))
def prsL : Nat → List (Nat × Nat) → List (Nat × Nat)
  | 0, P => P
  | n + 1, P => prsL n (P ++ P.map fun p => (p.1, p.2 + 1))
def statsL (a b : Nat) : List (Nat × Nat) := prsL b ((dblL a [0]).map fun l => (l, l + 1))
theorem ix_off {s : Str} : ∀ {z : List Str}, s ∉ z → ixS (z ++ [s]) s = z.length
  | [], _ => by unfold ixS; exact if_pos rfl
  | x :: r, h => by
    have h1 : x ≠ s := fun e => h (e ▸ List.mem_cons_self)
    rw [List.cons_append]
    unfold ixS
    rw [if_neg h1, ix_off fun m => h (List.mem_cons_of_mem _ m)]; rfl
theorem ix_on {s o : Str} : ∀ {z : List Str}, s ∈ z → ixS (z ++ [o]) s = ixS z s
  | [], h => nomatch h
  | x :: r, h => by
    rw [List.cons_append]
    unfold ixS
    by_cases q : x = s
    · rw [if_pos q, if_pos q]
    · rw [if_neg q, if_neg q, ix_on ((List.mem_cons.mp h).resolve_left fun e => q e.symm)]
theorem ahead_sets {s : Str} : ∀ (A : List Str) (F : List (List Str)), s ∉ A → (∀ z ∈ F, s ∉ z) → (A.foldl (stepS s) F).map List.length = dblL A.length (F.map List.length) ∧ ∀ z ∈ A.foldl (stepS s) F, s ∉ z
  | [], F, _, hF => ⟨rfl, hF⟩
  | o :: A, F, h, hF => by
    have ho : o ≠ s := fun e => h (e ▸ List.mem_cons_self)
    have e1 : stepS s F o = F ++ F.map (· ++ [o]) := if_neg ho
    have h2 : ∀ z ∈ F ++ F.map (· ++ [o]), s ∉ z := fun z mz m => by
      rcases List.mem_append.mp mz with mz | mz
      · exact hF z mz m
      · obtain ⟨y, my, rfl⟩ := List.mem_map.mp mz
        rcases List.mem_append.mp m with m | m
        · exact hF y my m
        · exact ho (List.mem_singleton.mp m).symm
    obtain ⟨g1, g2⟩ := ahead_sets A (F ++ F.map (· ++ [o])) (fun m => h (List.mem_cons_of_mem _ m)) h2
    rw [List.foldl_cons, e1]
    refine ⟨?_, g2⟩
    rw [g1, List.length_cons]
    show _ = dblL A.length (F.map List.length ++ (F.map List.length).map (· + 1))
    rw [List.map_append, List.map_map, List.map_map]
    congr 2
    exact List.map_congr_left fun z _ => by simp
def stZ (s : Str) (z : List Str) : Nat × Nat := (ixS z s, z.length)
theorem behind_sets {s : Str} : ∀ (B : List Str) (F : List (List Str)), s ∉ B → (∀ z ∈ F, s ∈ z) → (B.foldl (stepS s) F).map (stZ s) = prsL B.length (F.map (stZ s)) ∧ ∀ z ∈ B.foldl (stepS s) F, s ∈ z
  | [], F, _, hF => ⟨rfl, hF⟩
  | o :: B, F, h, hF => by
    have ho : o ≠ s := fun e => h (e ▸ List.mem_cons_self)
    have e1 : stepS s F o = F ++ F.map (· ++ [o]) := if_neg ho
    have h2 : ∀ z ∈ F ++ F.map (· ++ [o]), s ∈ z := fun z mz => by
      rcases List.mem_append.mp mz with mz | mz
      · exact hF z mz
      · obtain ⟨y, my, rfl⟩ := List.mem_map.mp mz
        exact List.mem_append.mpr (.inl (hF y my))
    obtain ⟨g1, g2⟩ := behind_sets B (F ++ F.map (· ++ [o])) (fun m => h (List.mem_cons_of_mem _ m)) h2
    rw [List.foldl_cons, e1]
    refine ⟨?_, g2⟩
    rw [g1, List.length_cons]
    show _ = prsL B.length (F.map (stZ s) ++ (F.map (stZ s)).map fun p => (p.1, p.2 + 1))
    rw [List.map_append, List.map_map, List.map_map]
    congr 2
    exact List.map_congr_left fun z mz => by
      show (ixS (z ++ [o]) s, (z ++ [o]).length) = (ixS z s, z.length + 1)
      rw [ix_on (hF z mz), List.length_append]; rfl
theorem sets_stats {s : Str} {A B : List Str} (hA : s ∉ A) (hB : s ∉ B) : (setsS s (A ++ s :: B)).map (stZ s) = statsL A.length B.length ∧ ∀ z ∈ setsS s (A ++ s :: B), s ∈ z := by
  obtain ⟨g1, g2⟩ := ahead_sets A [[]] hA fun z mz m => by rw [List.mem_singleton.mp mz] at m; cases m
  have e1 : stepS s (A.foldl (stepS s) [[]]) s = (A.foldl (stepS s) [[]]).map (· ++ [s]) := if_pos rfl
  obtain ⟨k1, k2⟩ := behind_sets B ((A.foldl (stepS s) [[]]).map (· ++ [s])) hB fun z mz => by
    obtain ⟨y, _, rfl⟩ := List.mem_map.mp mz
    exact List.mem_append.mpr (.inr List.mem_cons_self)
  unfold setsS
  rw [List.foldl_append, List.foldl_cons, e1]
  refine ⟨?_, k2⟩
  rw [k1]
  unfold statsL
  have : [([] : List Str)].map List.length = [0] := rfl
  rw [this] at g1
  rw [← g1, List.map_map, List.map_map]
  congr 1
  exact List.map_congr_left fun z mz => by
    show (ixS (z ++ [s]) s, (z ++ [s]).length) = (z.length, z.length + 1)
    rw [ix_off (g2 z mz), List.length_append]; rfl
theorem sets_sub {s : Str} : ∀ (ord : List Str) (F : List (List Str)), ∀ z ∈ ord.foldl (stepS s) F, (∃ y ∈ F, ∃ w, z = y ++ w ∧ w.length ≤ ord.length ∧ ∀ x ∈ w, x ∈ ord)
  | [], F, z, mz => ⟨z, mz, [], (List.append_nil z).symm, Nat.le_refl _, fun x m => nomatch m⟩
  | o :: r, F, z, mz => by
    rw [List.foldl_cons] at mz
    obtain ⟨y, my, w, rfl, l, h⟩ := sets_sub r (stepS s F o) z mz
    have : y ∈ F ∨ ∃ y' ∈ F, y = y' ++ [o] := by
      unfold stepS at my
      split at my
      · obtain ⟨y', m', rfl⟩ := List.mem_map.mp my
        exact .inr ⟨y', m', rfl⟩
      · rcases List.mem_append.mp my with my | my
        · exact .inl my
        · obtain ⟨y', m', rfl⟩ := List.mem_map.mp my
          exact .inr ⟨y', m', rfl⟩
    rcases this with m | ⟨y', m', rfl⟩
    · exact ⟨y, m, w, rfl, Nat.le_succ_of_le l, fun x mx => List.mem_cons_of_mem _ (h x mx)⟩
    · refine ⟨y', m', o :: w, by rw [List.append_assoc]; rfl, Nat.succ_le_succ l, fun x mx => ?_⟩
      rcases List.mem_cons.mp mx with rfl | mx
      · exact List.mem_cons_self
      · exact List.mem_cons_of_mem _ (h x mx)
def chS (m : Nat) : Nat → Nat
  | 0 => 1
  | k + 1 => chS m k * (m - k) / (k + 1)
def upR (q : Rat) (p : Nat × Nat) : Rat := q + Rat.divInt (((p.2 - 1 - p.1 : Nat)) : Int) (p.2 : Int)
def dnR (q : Rat) (p : Nat × Nat) : Rat := q + Rat.divInt ((p.1 : Nat) : Int) (p.2 : Int)
def upP (a b i j : Nat) : Rat := Rat.divInt ((chS a i * chS b j * j : Nat) : Int) ((i + j + 1 : Nat) : Int)
def dnP (a b i j : Nat) : Rat := Rat.divInt ((chS a i * chS b j * i : Nat) : Int) ((i + j + 1 : Nat) : Int)
def inR (f : Nat → Rat) (q : Rat) (n : Nat) : Rat := (List.range n).foldl (fun q j => q + f j) q
def rbUp (a b : Nat) (n : Nat) : Rat := (List.range n).foldl (fun q i => inR (upP a b i) q (b + 1)) 0
def rbDn (a b : Nat) (n : Nat) : Rat := (List.range n).foldl (fun q i => inR (dnP a b i) q (b + 1)) 0
theorem rb_eq : ∀ a < 8, ∀ b < 8, a + b < 8 → (statsL a b).foldl upR 0 = rbUp a b (a + 1) ∧ (statsL a b).foldl dnR 0 = rbDn a b (a + 1) := by decide +kernel
theorem ch_le : ∀ m < 8, ∀ k < 9, chS m k ≤ 35 ∧ chS m k * (m - k) ≤ 140 := by decide +kernel
theorem st_ok : ∀ a < 8, ∀ b < 8, a + b < 8 → (statsL a b).length ≤ 128 ∧ ∀ p ∈ statsL a b, p.1 < p.2 ∧ p.2 ≤ 8 := by decide +kernel
theorem cr_div {d n : Nat} (h1 : 1 ≤ d) (h8 : d ≤ 8) : Cr (840 * n) (Rat.divInt ((n : Nat) : Int) ((d : Nat) : Int)) := by
  have go : ∀ e : Nat, d * e = 840 → Cr (840 * n) (Rat.divInt ((n : Nat) : Int) ((d : Nat) : Int)) := fun e he => by
    have e0 : (e : Int) ≠ 0 := by
      intro z
      have : e = 0 := by omega
      rw [this] at he; omega
    refine ⟨(n : Int) * (e : Int), ?_, ?_⟩
    · rw [← Rat.divInt_mul_right (n := ((n : Nat) : Int)) (d := ((d : Nat) : Int)) e0]
      congr 1
      have : ((d * e : Nat) : Int) = 840 := by rw [he]; rfl
      rw [← this, Int.natCast_mul]
    · rw [Int.natAbs_mul, Int.natAbs_natCast, Int.natAbs_natCast, Nat.mul_comm]
      have : e ≤ 840 := Nat.le_of_dvd (by decide) ⟨d, by rw [Nat.mul_comm]; exact he.symm⟩
      exact Nat.mul_le_mul_right n this
  have : d = 1 ∨ d = 2 ∨ d = 3 ∨ d = 4 ∨ d = 5 ∨ d = 6 ∨ d = 7 ∨ d = 8 := by omega
  rcases this with rfl | rfl | rfl | rfl | rfl | rfl | rfl | rfl
  · exact go 840 rfl
  · exact go 420 rfl
  · exact go 280 rfl
  · exact go 210 rfl
  · exact go 168 rfl
  · exact go 140 rfl
  · exact go 120 rfl
  · exact go 105 rfl
theorem pl_in {O : List D} {s : Str} {i : Int} (hw : wks O = O) (hi : inD (.str s) (.tup O) = some true) (hx : ∀ t, opIdxX O [(t, .str s)] = some (.fz (.int i))) : m_place_in [.fz (.tpx O), .fz (.str s)] = .ret (.fz (.int i)) [.fz (.tpx O), .fz (.str s)] := by
  unfold m_place_in c_place_in
  walk_at "ev*"
theorem pl_out {O : List D} {x : D} (hw : wks O = O) (hi : inD x (.tup O) = some false) : m_place_in [.fz (.tpx O), .fz x] = .exc "NoName" [("name", x)] [.fz (.tpx O), .fz x] := by
  unfold m_place_in c_place_in
  walk_at "ev*"
theorem q_place {ord : List Str} {s : Str} (hs : s ∈ ord) : m_place_in [.fz (.tpx (namesD ord)), .fz (.str s)] = .ret (.fz (.int (ixS ord s : Nat))) [.fz (.tpx (namesD ord)), .fz (.str s)] :=
  pl_in (wks_str ord) (by rw [in_namesT, decide_eq_true hs]) fun t => idx_names hs t
theorem wy_turn {m k i c s p j f : Int} (hs : m - i = s) (hm : CMulW c s) (hp : c * s = p) (hj : i + 1 = j) (dz : CDivZ p j) (j0 : j ≠ 0) (hf : p.fdiv j = f) :
    lp_ways_1 [.fz (.int m), .fz (.int k), .fz (.int c), .fz (.int i)] = .nx [.fz (.int m), .fz (.int k), .fz (.int f), .fz (.int i)] := by
  unfold lp_ways_1
  walk_at "ev*"
theorem wy_nm {x0 x1 x2 v : D} {y3 : Sl} : gN 3 (.fz v) [.fz x0, .fz x1, .fz x2, y3] = .nx [.fz x0, .fz x1, .fz x2, .fz v] := by walk_at "ev*"
theorem wy_run {m k c : Int} {z3 : Sl} (rg : inRg k) (hf : forD (gN 3) lp_ways_1 (rangeD 0 k.toNat) [.fz (.int m), .fz (.int k), .fz (.int 1), .un] = .nx [.fz (.int m), .fz (.int k), .fz (.int c), z3]) : m_ways [.fz (.int m), .fz (.int k)] = .ret (.fz (.int c)) [.fz (.int m), .fz (.int k)] := by
  unfold m_ways c_ways
  generalize lp_ways_1 = LP at *
  generalize gN 3 = G at *
  walk_at "ev*"
theorem q_ways {m k : Nat} (hm : m < 8) (hk : k ≤ m) : m_ways [.fz (.int (m : Nat)), .fz (.int (k : Nat))] = .ret (.fz (.int (chS m k : Nat))) [.fz (.int (m : Nat)), .fz (.int (k : Nat))] := by
  obtain ⟨s', hf, z3, rfl⟩ := for_range (g := gN 3) (f := lp_ways_1) (lo := 0) (n := k) (fun i ss => ∃ z3, ss = [.fz (.int (m : Nat)), .fz (.int (k : Nat)), .fz (.int (chS m i : Nat)), z3]) (ss := [.fz (.int (m : Nat)), .fz (.int (k : Nat)), .fz (.int 1), .un]) ⟨.un, rfl⟩
    fun i ss hi hI => by
      obtain ⟨z3, rfl⟩ := hI
      obtain ⟨c1, c2⟩ := ch_le m hm i (by omega)
      have ep : ((chS m i : Nat) : Int) * ((m - i : Nat) : Int) = ((chS m i * (m - i) : Nat) : Int) := by rw [Int.natCast_mul]
      have ef : ((chS m i * (m - i) : Nat) : Int).fdiv ((i + 1 : Nat) : Int) = ((chS m (i + 1) : Nat) : Int) := by
        rw [Int.fdiv_eq_ediv_of_nonneg _ (by omega)]
        show _ = ((chS m i * (m - i) / (i + 1) : Nat) : Int)
        omega
      refine ⟨_, _, wy_nm, .inl (wy_turn (s := ((m - i : Nat) : Int)) (p := ((chS m i * (m - i) : Nat) : Int)) (j := ((i + 1 : Nat) : Int)) (f := ((chS m (i + 1) : Nat) : Int)) (by omega) (mulW (n := 10) (m := 10) (by rw [Int.natAbs_natCast]; omega) (by rw [Int.natAbs_natCast]; omega) (by decide)) ep (by omega) (divZ (b := 20) (by omega) (by rw [Int.natAbs_natCast]; omega) (by decide) (by decide)) (by omega) ef), _, rfl⟩
  exact wy_run (by unfold inRg; omega) (by rw [Int.toNat_natCast]; exact hf)
abbrev shI (p q : Int) : D := .ins "Share" [("top", .int p), ("bottom", .int q)]
theorem rb_turn {x0 x1 r1 r2 z1 z2 : D} {a b i j c1 c2 s n1 n2 t d p1 q1 p2 q2 : Int} {y8 : Sl} (e1 : m_ways [.fz (.int a), .fz (.int i)] = .ret (.fz (.int c1)) [.fz (.int a), .fz (.int i)]) (e2 : m_ways [.fz (.int b), .fz (.int j)] = .ret (.fz (.int c2)) [.fz (.int b), .fz (.int j)])
    (m1 : CMulW c1 c2) (h1 : c1 * c2 = s) (m2 : CMulW s j) (h2 : s * j = n1) (m3 : CMulW s i) (h3 : s * i = n2) (h4 : i + j = t) (h5 : t + 1 = d) (i1 : m_Share_init [.ow .o1 (.ins "Share" []), .fz (.int n1), .fz (.int d)] = .ret (.fz .non) [.ow .o1 z1, .fz (.int n1), .fz (.int d)]) (i2 : m_Share_init [.ow .o1 (.ins "Share" []), .fz (.int n2), .fz (.int d)] = .ret (.fz .non) [.ow .o1 z2, .fz (.int n2), .fz (.int d)])
    (k1 : m_Share_plus [.fz (shI p1 q1), .fz z1] = .ret (.fz r1) [.fz (shI p1 q1), .fz z1]) (k2 : m_Share_plus [.fz (shI p2 q2), .fz z2] = .ret (.fz r2) [.fz (shI p2 q2), .fz z2]) (d8 : Dull y8) :
    lp_round_bound_1 [.fz x0, .fz x1, .fz (.int a), .fz (.int b), .fz (shI p1 q1), .fz (shI p2 q2), .fz (.int i), .fz (.int j), y8] = .nx [.fz x0, .fz x1, .fz (.int a), .fz (.int b), .fz r1, .fz r2, .fz (.int i), .fz (.int j), .fz (.int s)] := by
  unfold lp_round_bound_1
  generalize m_ways = M1 at *
  generalize m_Share_init = M2 at *
  generalize m_Share_plus = M3 at *
  walk_at "ev*"
theorem rb_nm7 {x0 x1 x2 x3 x4 x5 x6 v : D} {y7 y8 : Sl} (d8 : Dull y8) : gN 7 (.fz v) [.fz x0, .fz x1, .fz x2, .fz x3, .fz x4, .fz x5, .fz x6, y7, y8] = .nx [.fz x0, .fz x1, .fz x2, .fz x3, .fz x4, .fz x5, .fz x6, .fz v, y8] := by walk_at "ev*"
theorem rb_nm6 {x0 x1 x2 x3 x4 x5 v : D} {y6 y7 y8 : Sl} (d7 : Dull y7) (d8 : Dull y8) : gN 6 (.fz v) [.fz x0, .fz x1, .fz x2, .fz x3, .fz x4, .fz x5, y6, y7, y8] = .nx [.fz x0, .fz x1, .fz x2, .fz x3, .fz x4, .fz x5, .fz v, y7, y8] := by walk_at "ev*"
theorem rb_row {x0 x1 x2 x4 x5 x6 : D} {b c : Int} {y7 y8 : Sl} {s' : List Sl} (hc : b + 1 = c) (rg : inRg c) (hf : forD (gN 7) lp_round_bound_1 (rangeD 0 c.toNat) [.fz x0, .fz x1, .fz x2, .fz (.int b), .fz x4, .fz x5, .fz x6, y7, y8] = .nx s') (d7 : Dull y7) (d8 : Dull y8) :
    lp_round_bound_2 [.fz x0, .fz x1, .fz x2, .fz (.int b), .fz x4, .fz x5, .fz x6, y7, y8] = .nx s' := by
  unfold lp_round_bound_2
  generalize lp_round_bound_1 = LP at *
  generalize gN 7 = G at *
  walk_at "ev*"
theorem in_snoc (f : Nat → Rat) (q : Rat) (n : Nat) : inR f q (n + 1) = inR f q n + f n := by
  unfold inR
  rw [List.range_succ, List.foldl_append]; rfl
theorem in_cr {f : Nat → Rat} {q : Rat} {b c : Nat} (hq : Cr b q) : ∀ n : Nat, (∀ i < n, Cr c (f i)) → Cr (b + c * n) (inR f q n)
  | 0, _ => hq
  | n + 1, h => by
    rw [in_snoc]
    exact cr_mono (cr_add (in_cr hq n fun i hi => h i (by omega)) (h n (by omega))) (by rw [Nat.mul_add]; omega)
theorem up_cr {a b i j : Nat} (ha : a < 8) (hb : b < 8) (hi : i ≤ a) (hj : j ≤ b) (hab : a + b < 8) : Cr 8000000 (upP a b i j) ∧ Cr 8000000 (dnP a b i j) ∧ chS a i ≤ 35 ∧ chS b j ≤ 35 := by
  have c1 := (ch_le a ha i (by omega)).1
  have c2 := (ch_le b hb j (by omega)).1
  have c3 : chS a i * chS b j ≤ 1225 := Nat.mul_le_mul c1 c2
  refine ⟨cr_mono (cr_div (by omega) (by omega)) ?_, cr_mono (cr_div (by omega) (by omega)) ?_, c1, c2⟩
  · have : chS a i * chS b j * j ≤ 1225 * 7 := Nat.mul_le_mul c3 (by omega)
    omega
  · have : chS a i * chS b j * i ≤ 1225 * 7 := Nat.mul_le_mul c3 (by omega)
    omega
theorem q_rbrow {x0 x1 : D} {a b i : Nat} {q r : Rat} {B : Nat} {y7 y8 : Sl} (ha : a < 8) (hb : b < 8) (hi : i ≤ a) (hab : a + b < 8) (hq : Cr B q) (hr : Cr B r) (hB : B < 2 ^ 36) (d7 : Dull y7) (d8 : Dull y8) :
    ∃ z7 z8, Dull z7 ∧ Dull z8 ∧ lp_round_bound_2 [.fz x0, .fz x1, .fz (.int (a : Nat)), .fz (.int (b : Nat)), .fz (shD q), .fz (shD r), .fz (.int (i : Nat)), y7, y8] = .nx [.fz x0, .fz x1, .fz (.int (a : Nat)), .fz (.int (b : Nat)), .fz (shD (inR (upP a b i) q (b + 1))), .fz (shD (inR (dnP a b i) r (b + 1))), .fz (.int (i : Nat)), z7, z8] := by
  obtain ⟨s', hf, z7, z8, k7, k8, rfl⟩ := for_range (g := gN 7) (f := lp_round_bound_1) (lo := 0) (n := b + 1) (fun j ss => ∃ z7 z8, Dull z7 ∧ Dull z8 ∧ ss = [.fz x0, .fz x1, .fz (.int (a : Nat)), .fz (.int (b : Nat)), .fz (shD (inR (upP a b i) q j)), .fz (shD (inR (dnP a b i) r j)), .fz (.int (i : Nat)), z7, z8])
    (ss := [.fz x0, .fz x1, .fz (.int (a : Nat)), .fz (.int (b : Nat)), .fz (shD q), .fz (shD r), .fz (.int (i : Nat)), y7, y8]) ⟨y7, y8, d7, d8, rfl⟩
    fun j ss hj hI => by
      obtain ⟨z7, z8, k7, k8, rfl⟩ := hI
      obtain ⟨u1, u2, c1, c2⟩ := up_cr ha hb hi (j := j) (by omega) hab
      have w1 := cr_sz (in_cr (c := 8000000) hq j fun l hl => (up_cr ha hb hi (j := l) (by omega) hab).1) (by omega)
      have w2 := cr_sz (in_cr (c := 8000000) hr j fun l hl => (up_cr ha hb hi (j := l) (by omega) hab).2.1) (by omega)
      have c3 : chS a i * chS b j ≤ 1225 := Nat.mul_le_mul c1 c2
      have c4 : chS a i * chS b j * j ≤ 1225 * 7 := Nat.mul_le_mul c3 (by omega)
      have e1 := q_ways ha hi
      have e2 := q_ways (k := j) hb (by omega)
      have i1 := q_Share_init (a := ((chS a i * chS b j * j : Nat) : Int)) (b := ((i + j + 1 : Nat) : Int)) (by omega) (by rw [Int.natAbs_natCast]; exact pow_le (n := 10) (by omega) (by decide))
      have i2 := q_Share_init (a := ((chS a i * chS b j * i : Nat) : Int)) (b := ((i + j + 1 : Nat) : Int)) (by omega) (by rw [Int.natAbs_natCast]; exact pow_le (n := 10) (by omega) (by decide))
      have k1 := q_Share_plus w1 (cr_sz u1 (by decide)) (by decide)
      have k2 := q_Share_plus w2 (cr_sz u2 (by decide)) (by decide)
      have t := rb_turn (x0 := x0) (x1 := x1) (a := (a : Nat)) (b := (b : Nat)) (i := (i : Nat)) (j := (j : Nat)) (s := ((chS a i * chS b j : Nat) : Int)) (t := ((i + j : Nat) : Int)) (y8 := z8) e1 e2
        (mulW (n := 10) (m := 10) (by rw [Int.natAbs_natCast]; omega) (by rw [Int.natAbs_natCast]; omega) (by decide)) (Int.natCast_mul _ _).symm
        (mulW (n := 20) (m := 10) (by rw [Int.natAbs_natCast]; omega) (by rw [Int.natAbs_natCast]; omega) (by decide)) (Int.natCast_mul _ _).symm
        (mulW (n := 20) (m := 10) (by rw [Int.natAbs_natCast]; omega) (by rw [Int.natAbs_natCast]; omega) (by decide)) (Int.natCast_mul _ _).symm (by omega) (by omega) i1 i2 k1 k2 k8
      rw [show (0 : Int) + ((j : Nat) : Int) = ((j : Nat) : Int) from Int.zero_add _]
      refine ⟨_, _, rb_nm7 k8, .inl t, .fz (.int (j : Nat)), .fz (.int ((chS a i * chS b j : Nat) : Int)), fun _ => rfl, fun _ => rfl, ?_⟩
      rw [in_snoc, in_snoc]
  exact ⟨z7, z8, k7, k8, rb_row (c := ((b + 1 : Nat) : Int)) (by omega) (by unfold inRg; omega) (by rw [Int.toNat_natCast]; exact hf) d7 d8⟩
theorem rb_end {O : List D} {x1 r1 r2 z0 : D} {n a t b c : Int} {z6 z7 z8 : Sl} (hw : wks O = O) (hn : ((O.length : Nat) : Int) = n) (lo : O.length ≤ sizeLine) (e : m_place_in [.fz (.tpx O), .fz x1] = .ret (.fz (.int a)) [.fz (.tpx O), .fz x1]) (ht : n - a = t) (hb : t - 1 = b) (hc : a + 1 = c) (rg : inRg c) (hz : m_Share_init [.ow .o1 (.ins "Share" []), .fz (.int 0), .fz (.int 1)] = .ret (.fz .non) [.ow .o1 z0, .fz (.int 0), .fz (.int 1)])
    (hf : forD (gN 6) lp_round_bound_2 (rangeD 0 c.toNat) [.fz (.tpx O), .fz x1, .fz (.int a), .fz (.int b), .fz z0, .fz z0, .un, .un, .un] = .nx [.fz (.tpx O), .fz x1, .fz (.int a), .fz (.int b), .fz r1, .fz r2, z6, z7, z8]) :
    m_round_bound [.fz (.tpx O), .fz x1] = .ret (.fz (.tup [r1, r2])) [.fz (.tpx O), .fz x1] := by
  have l2 : 2 ≤ sizeLine := by decide
  unfold m_round_bound c_round_bound
  generalize lp_round_bound_2 = LP at *
  generalize m_place_in = M1 at *
  generalize m_Share_init = M2 at *
  generalize gN 6 = G at *
  walk_at "ev*"
theorem rb_out {O : List D} {x1 : D} (e : m_place_in [.fz (.tpx O), .fz x1] = .exc "NoName" [("name", x1)] [.fz (.tpx O), .fz x1]) : m_round_bound [.fz (.tpx O), .fz x1] = .exc "NoName" [("name", x1)] [.fz (.tpx O), .fz x1] := by
  unfold m_round_bound c_round_bound
  generalize m_place_in = M1 at *
  walk_at "ev*"
theorem share_00 : m_Share_init [.ow .o1 (.ins "Share" []), .fz (.int 0), .fz (.int 1)] = .ret (.fz .non) [.ow .o1 (shD 0), .fz (.int 0), .fz (.int 1)] := by
  have := q_Share_init (a := 0) (b := 1) (by decide) (by decide)
  rw [show Rat.divInt 0 1 = 0 from rfl] at this
  exact this
theorem up_snoc (a b n : Nat) : rbUp a b (n + 1) = inR (upP a b n) (rbUp a b n) (b + 1) ∧ rbDn a b (n + 1) = inR (dnP a b n) (rbDn a b n) (b + 1) := by
  unfold rbUp rbDn
  rw [List.range_succ, List.foldl_append, List.foldl_append]
  exact ⟨rfl, rfl⟩
theorem ix_split {s : Str} {A B : List Str} (h : s ∉ A) : ixS (A ++ s :: B) s = A.length := by
  induction A with
  | nil => show ixS (s :: B) s = 0; unfold ixS; exact if_pos rfl
  | cons x r ih =>
    rw [List.cons_append]
    unfold ixS
    rw [if_neg fun e : x = s => h (e ▸ List.mem_cons_self), ih fun m => h (List.mem_cons_of_mem _ m)]; rfl
theorem rb_cr {a b : Nat} (ha : a < 8) (hb : b < 8) (hab : a + b < 8) : ∀ n ≤ a + 1, Cr (64000000 * n) (rbUp a b n) ∧ Cr (64000000 * n) (rbDn a b n)
  | 0, _ => ⟨cr_zero, cr_zero⟩
  | n + 1, h => by
    obtain ⟨h1, h2⟩ := rb_cr ha hb hab n (by omega)
    obtain ⟨e1, e2⟩ := up_snoc a b n
    rw [e1, e2]
    exact ⟨cr_mono (in_cr (c := 8000000) h1 (b + 1) fun l hl => (up_cr ha hb (by omega) (by omega) hab).1) (by omega), cr_mono (in_cr (c := 8000000) h2 (b + 1) fun l hl => (up_cr ha hb (by omega) (by omega) hab).2.1) (by omega)⟩
theorem q_rb {s : Str} {A B : List Str} (hA : s ∉ A) (hl : A.length + B.length < 8) : m_round_bound [.fz (.tpx (namesD (A ++ s :: B))), .fz (.str s)] = .ret (.fz (.tup [shD (rbUp A.length B.length (A.length + 1)), shD (rbDn A.length B.length (A.length + 1))])) [.fz (.tpx (namesD (A ++ s :: B))), .fz (.str s)] := by
  have sz : sizeLine = 16777216 := rfl
  have hs : s ∈ A ++ s :: B := List.mem_append.mpr (.inr List.mem_cons_self)
  have e := q_place hs
  rw [ix_split hA] at e
  have ln : (namesD (A ++ s :: B)).length = A.length + B.length + 1 := by rw [List.length_map, List.length_append, List.length_cons]; omega
  obtain ⟨s', hf, z6, z7, z8, k7, k8, rfl⟩ := for_range (g := gN 6) (f := lp_round_bound_2) (lo := 0) (n := A.length + 1) (fun i ss => ∃ z6 z7 z8, Dull z7 ∧ Dull z8 ∧ ss = [.fz (.tpx (namesD (A ++ s :: B))), .fz (.str s), .fz (.int (A.length : Nat)), .fz (.int (B.length : Nat)), .fz (shD (rbUp A.length B.length i)), .fz (shD (rbDn A.length B.length i)), z6, z7, z8])
    (ss := [.fz (.tpx (namesD (A ++ s :: B))), .fz (.str s), .fz (.int (A.length : Nat)), .fz (.int (B.length : Nat)), .fz (shD 0), .fz (shD 0), .un, .un, .un]) ⟨.un, .un, .un, fun _ => rfl, fun _ => rfl, rfl⟩
    fun i ss hi hI => by
      obtain ⟨z6, z7, z8, k7, k8, rfl⟩ := hI
      obtain ⟨h1, h2⟩ := rb_cr (a := A.length) (b := B.length) (by omega) (by omega) hl i (by omega)
      obtain ⟨w7, w8, j7, j8, f⟩ := q_rbrow (x0 := .tpx (namesD (A ++ s :: B))) (x1 := .str s) (i := i) (by omega) (by omega) (by omega) hl h1 h2 (by omega) k7 k8
      obtain ⟨e1, e2⟩ := up_snoc A.length B.length i
      rw [← e1, ← e2] at f
      rw [show (0 : Int) + ((i : Nat) : Int) = ((i : Nat) : Int) from Int.zero_add _]
      exact ⟨_, _, rb_nm6 k7 k8, .inl f, .fz (.int (i : Nat)), w7, w8, j7, j8, rfl⟩
  exact rb_end (wks_str _) (a := ((A.length : Nat) : Int)) (b := ((B.length : Nat) : Int)) (n := ((A.length + B.length + 1 : Nat) : Int)) (t := ((B.length + 1 : Nat) : Int)) (c := ((A.length + 1 : Nat) : Int)) (by rw [ln]) (by rw [ln]; omega) e (by omega) (by omega) (by omega) (by unfold inRg; omega) share_00 (by rw [Int.toNat_natCast]; exact hf)
abbrev setsD (F : List (List Str)) : List D := F.map fun z => .lst (namesD z)
theorem ls_c1 {x0 x1 : Sl} {F : List D} {o : D} {z : List D} {acc : List D} {c : List D → List Sl → Ro (List D × List Sl)} (hl : z.length + 1 ≤ sizeLine) (ha : acc.length < sizeLine) (d0 : Dull x0) (d1 : Dull x1) :
    cD1 fYes le_law_sets_1 c acc [4] (gN 4 (.fz (.lst z)) [x0, x1, .fz (.lst F), .fz o, .un]) = c (acc ++ [.lst (z ++ [o])]) [x0, x1, .fz (.lst F), .fz o, .un] := by
  have l1 : 1 ≤ sizeLine := by decide
  unfold le_law_sets_1
  walk_at "ev*"
theorem ls_c2 {x0 x1 : Sl} {F : List D} {o : D} {z : List D} {acc : List D} {c : List D → List Sl → Ro (List D × List Sl)} (hl : z.length + 1 ≤ sizeLine) (ha : acc.length < sizeLine) (d0 : Dull x0) (d1 : Dull x1) :
    cD1 fYes le_law_sets_2 c acc [4] (gN 4 (.fz (.lst z)) [x0, x1, .fz (.lst F), .fz o, .un]) = c (acc ++ [.lst (z ++ [o])]) [x0, x1, .fz (.lst F), .fz o, .un] := by
  have l1 : 1 ≤ sizeLine := by decide
  unfold le_law_sets_2
  walk_at "ev*"
theorem ls_yes {x0 : Sl} {F N : List D} {o s : Str} (hc : compD (gN 4) fYes le_law_sets_1 [4] F [] [x0, .fz (.str s), .fz (.lst F), .fz (.str o), .un] = .ok (N, [x0, .fz (.str s), .fz (.lst F), .fz (.str o), .un])) (hq : eqD (.str o) (.str s) = some true) (d0 : Dull x0) :
    lp_law_sets_1 [x0, .fz (.str s), .fz (.lst F), .fz (.str o), .un] = .nx [x0, .fz (.str s), .fz (.lst N), .fz (.str o), .un] := by
  unfold lp_law_sets_1
  generalize le_law_sets_1 = E1 at *
  generalize gN 4 = G at *
  walk_at "ev*"
theorem ls_no {x0 : Sl} {F N : List D} {o s : Str} (hc : compD (gN 4) fYes le_law_sets_2 [4] F [] [x0, .fz (.str s), .fz (.lst F), .fz (.str o), .un] = .ok (N, [x0, .fz (.str s), .fz (.lst F), .fz (.str o), .un])) (hq : eqD (.str o) (.str s) = some false) (hl : F.length + N.length ≤ sizeLine) (d0 : Dull x0) :
    lp_law_sets_1 [x0, .fz (.str s), .fz (.lst F), .fz (.str o), .un] = .nx [x0, .fz (.str s), .fz (.lst (F ++ N)), .fz (.str o), .un] := by
  unfold lp_law_sets_1
  generalize le_law_sets_2 = E1 at *
  generalize gN 4 = G at *
  walk_at "ev*"
theorem ls_nm {x0 x1 x2 v : D} {y3 : Sl} : gN 3 (.fz v) [.fz x0, .fz x1, .fz x2, y3, .un] = .nx [.fz x0, .fz x1, .fz x2, .fz v, .un] := by walk_at "ev*"
theorem setsD_len (F : List (List Str)) : (setsD F).length = F.length := List.length_map _
theorem ls_go {x0 : D} {s : Str} : ∀ (r : List Str) (F : List (List Str)) (y3 : Sl), F.length * 2 ^ r.length ≤ 1000 → (∀ z ∈ F, z.length + r.length ≤ 100) →
    ∃ z3, forD (gN 3) lp_law_sets_1 (namesD r) [.fz x0, .fz (.str s), .fz (.lst (setsD F)), y3, .un] = .nx [.fz x0, .fz (.str s), .fz (.lst (setsD (r.foldl (stepS s) F))), z3, .un]
  | [], F, y3, _, _ => ⟨y3, rfl⟩
  | o :: r, F, y3, hl, hz => by
    have sz : sizeLine = 16777216 := rfl
    rw [List.length_cons, Nat.pow_succ] at hl
    have hp := Nat.two_pow_pos r.length
    have hF : F.length * 1 ≤ F.length * (2 ^ r.length * 2) := Nat.mul_le_mul_left _ (by omega)
    have hlen : F.length ≤ 1000 := by omega
    have hz1 : ∀ z ∈ F, z.length + 1 ≤ 100 := fun z mz => by
      have := hz z mz
      rw [List.length_cons] at this; omega
    have f0 : (setsD F).map (fun d => match d with | .lst z => D.lst (z ++ [.str o]) | _ => .non) = setsD (F.map (· ++ [o])) := by
      show (List.map _ F).map _ = List.map _ (List.map _ F)
      rw [List.map_map, List.map_map]
      exact List.map_congr_left fun z _ => by
        show D.lst (z.map D.str ++ [.str o]) = .lst ((z ++ [o]).map D.str)
        rw [List.map_append]; rfl
    have hq : eqD (.str o) (.str s) = some (decide (o = s)) := by rw [e_eqS]
    have step : lp_law_sets_1 [.fz x0, .fz (.str s), .fz (.lst (setsD F)), .fz (.str o), .un] = .nx [.fz x0, .fz (.str s), .fz (.lst (setsD (stepS s F o))), .fz (.str o), .un] := by
      unfold stepS
      by_cases e : o = s
      · rw [if_pos e]
        rw [decide_eq_true e] at hq
        have c := comp_map (g := gN 4) (ft := fYes) (fe := le_law_sets_1) (vs := [4]) (fun d => match d with | .lst z => D.lst (z ++ [.str o]) | _ => .non) (ss := [.fz x0, .fz (.str s), .fz (.lst (setsD F)), .fz (.str o), .un]) (ds := setsD F) (by rw [setsD_len]; omega)
          fun d md acc ha c => by
            obtain ⟨z, mz, rfl⟩ := List.mem_map.mp md
            exact ls_c1 (by rw [List.length_map]; have := hz1 z mz; omega) ha (fun _ => rfl) (fun _ => rfl)
        rw [f0] at c
        exact ls_yes c hq (fun _ => rfl)
      · rw [if_neg e]
        rw [decide_eq_false e] at hq
        have c := comp_map (g := gN 4) (ft := fYes) (fe := le_law_sets_2) (vs := [4]) (fun d => match d with | .lst z => D.lst (z ++ [.str o]) | _ => .non) (ss := [.fz x0, .fz (.str s), .fz (.lst (setsD F)), .fz (.str o), .un]) (ds := setsD F) (by rw [setsD_len]; omega)
          fun d md acc ha c => by
            obtain ⟨z, mz, rfl⟩ := List.mem_map.mp md
            exact ls_c2 (by rw [List.length_map]; have := hz1 z mz; omega) ha (fun _ => rfl) (fun _ => rfl)
        rw [f0] at c
        have t := ls_no c hq (by rw [setsD_len, setsD_len, List.length_map]; omega) (fun _ => rfl)
        rw [← List.map_append] at t
        exact t
    have h2 : (stepS s F o).length ≤ F.length * 2 := by
      unfold stepS
      split
      · rw [List.length_map]; omega
      · rw [List.length_append, List.length_map]; omega
    have h3 : ∀ z ∈ stepS s F o, z.length + r.length ≤ 100 := fun z mz => by
      have go : ∀ y ∈ F, y.length + 1 + r.length ≤ 100 := fun y my => by
        have := hz y my
        rw [List.length_cons] at this; omega
      unfold stepS at mz
      split at mz
      · obtain ⟨y, my, rfl⟩ := List.mem_map.mp mz
        have := go y my
        rw [List.length_append, List.length_singleton]; omega
      · rcases List.mem_append.mp mz with mz | mz
        · have := go z mz; omega
        · obtain ⟨y, my, rfl⟩ := List.mem_map.mp mz
          have := go y my
          rw [List.length_append, List.length_singleton]; omega
    obtain ⟨z3, f⟩ := ls_go (x0 := x0) (s := s) r (stepS s F o) (.fz (.str o)) (Nat.le_trans (Nat.mul_le_mul_right _ h2) (by rw [Nat.mul_assoc, Nat.mul_comm 2]; exact hl)) h3
    refine ⟨z3, ?_⟩
    show forD (gN 3) lp_law_sets_1 (.str o :: namesD r) _ = _
    rw [for_cons', ls_nm, seq_nx', step, loop_nx', f]; rfl
theorem ls_end {O F : List D} {x1 : D} {z3 : Sl} (hf : forD (gN 3) lp_law_sets_1 O [.fz (.tup O), .fz x1, .fz (.lst [.lst []]), .un, .un] = .nx [.fz (.tup O), .fz x1, .fz (.lst F), z3, .un]) : m_law_sets [.fz (.tup O), .fz x1] = .ret (.fz (.lst F)) [.fz (.tup O), .fz x1] := by
  have l1 : 1 ≤ sizeLine := by decide
  unfold m_law_sets c_law_sets
  generalize lp_law_sets_1 = LP at *
  generalize gN 3 = G at *
  walk_at "ev*"
theorem q_sets {ord : List Str} {s : Str} (h : ord.length ≤ 8) : m_law_sets [.fz (.tup (namesD ord)), .fz (.str s)] = .ret (.fz (.lst (setsD (setsS s ord)))) [.fz (.tup (namesD ord)), .fz (.str s)] := by
  have hp : 2 ^ ord.length ≤ 2 ^ 8 := Nat.pow_le_pow_right (by decide) h
  obtain ⟨z3, f⟩ := ls_go (x0 := .tup (namesD ord)) (s := s) ord [[]] .un (by rw [List.length_singleton]; omega) fun z mz => by
    rw [List.mem_singleton.mp mz]; show 0 + ord.length ≤ 100; omega
  exact ls_end f
theorem lb_turn {x0 x1 u1 u2 r1 r2 : D} {z : List D} {n i a b : Int} {y5 : Sl} (hi : ∀ t u : Tg, opIndex t (.lst z) [(u, x1)] = some (.fz (.int i))) (hn : ((z.length : Nat) : Int) = n) (lz : z.length ≤ sizeLine) (ha : n - 1 = a) (hb : a - i = b)
    (e1 : m_law_add [.fz u1, .fz (.tup [.int b, .int n])] = .ret (.fz r1) [.fz u1, .fz (.tup [.int b, .int n])]) (e2 : m_law_add [.fz u2, .fz (.tup [.int i, .int n])] = .ret (.fz r2) [.fz u2, .fz (.tup [.int i, .int n])]) (d5 : Dull y5) :
    lp_law_round_bound_1 [.fz x0, .fz x1, .fz u1, .fz u2, .fz (.lst z), y5] = .nx [.fz x0, .fz x1, .fz r1, .fz r2, .fz (.lst z), .fz (.int i)] := by
  have l2 : 2 ≤ sizeLine := by decide
  unfold lp_law_round_bound_1
  generalize m_law_add = M at *
  generalize opIndex = OP at *
  walk_at "ev*"
theorem lb_nm {x0 x1 x2 x3 v : D} {y4 y5 : Sl} (d5 : Dull y5) : gN 4 (.fz v) [.fz x0, .fz x1, .fz x2, .fz x3, y4, y5] = .nx [.fz x0, .fz x1, .fz x2, .fz x3, .fz v, y5] := by walk_at "ev*"
theorem lb_go {x0 : D} {s : Str} : ∀ (F : List (List Str)) (u w : Rat) (n : Nat) (y4 y5 : Sl), (∀ z ∈ F, s ∈ z ∧ z.length ≤ 8 ∧ ∀ x ∈ z, NameOk x) → Cr (8000 * n) u → Cr (8000 * n) w → n + F.length ≤ 1000 → Dull y4 → Dull y5 →
    ∃ z4 z5, Dull z4 ∧ Dull z5 ∧ forD (gN 4) lp_law_round_bound_1 (setsD F) [.fz x0, .fz (.str s), .fz (prD u), .fz (prD w), y4, y5] = .nx [.fz x0, .fz (.str s), .fz (prD ((F.map (stZ s)).foldl upR u)), .fz (prD ((F.map (stZ s)).foldl dnR w)), z4, z5]
  | [], u, w, n, y4, y5, _, _, _, _, d4, d5 => ⟨y4, y5, d4, d5, rfl⟩
  | z :: F, u, w, n, y4, y5, h, hu, hw, hn, d4, d5 => by
    have sz : sizeLine = 16777216 := rfl
    rw [List.length_cons] at hn
    obtain ⟨hs, hl, ok⟩ := h z List.mem_cons_self
    have l1 : 1 ≤ z.length := List.length_pos_of_mem hs
    have hix : ixS z s < z.length := (List.getElem?_eq_some_iff.mp (ixS_get hs)).1
    have su := cr_sz hu (by omega)
    have sw := cr_sz hw (by omega)
    have c1 : Cr 8000 (Rat.divInt ((z.length - 1 - ixS z s : Nat) : Int) (z.length : Int)) := cr_mono (cr_div l1 hl) (by omega)
    have c2 : Cr 8000 (Rat.divInt ((ixS z s : Nat) : Int) (z.length : Int)) := cr_mono (cr_div l1 hl) (by omega)
    have e1 := q_add (n := 40) (m := 10) (a := u.num) (b := (u.den : Int)) (c := ((z.length - 1 - ixS z s : Nat) : Int)) (d := (z.length : Int)) (den_ne u) (by omega) su.1 (dsz su) (by rw [Int.natAbs_natCast]; omega) (by rw [Int.natAbs_natCast]; omega) (by decide)
    have e2 := q_add (n := 40) (m := 10) (a := w.num) (b := (w.den : Int)) (c := ((ixS z s : Nat) : Int)) (d := (z.length : Int)) (den_ne w) (by omega) sw.1 (dsz sw) (by rw [Int.natAbs_natCast]; omega) (by rw [Int.natAbs_natCast]; omega) (by decide)
    rw [Rat.num_divInt_den] at e1 e2
    have t := lb_turn (x0 := x0) (x1 := .str s) (u1 := prD u) (u2 := prD w) (z := namesD z) (n := (z.length : Int)) (i := ((ixS z s : Nat) : Int)) (a := ((z.length - 1 : Nat) : Int)) (b := ((z.length - 1 - ixS z s : Nat) : Int)) (y5 := y5) (index_names ok hs) (by rw [List.length_map]) (by rw [List.length_map]; omega) (by omega) (by omega) e1 e2 d5
    obtain ⟨z4, z5, k4, k5, f⟩ := lb_go (x0 := x0) (s := s) F (upR u (stZ s z)) (dnR w (stZ s z)) (n + 1) (.fz (.lst (namesD z))) (.fz (.int (ixS z s : Nat))) (fun y my => h y (List.mem_cons_of_mem _ my)) (cr_mono (cr_add hu c1) (by omega)) (cr_mono (cr_add hw c2) (by omega)) (by omega) (fun _ => rfl) (fun _ => rfl)
    refine ⟨z4, z5, k4, k5, ?_⟩
    show forD (gN 4) lp_law_round_bound_1 (.lst (namesD z) :: setsD F) _ = _
    rw [for_cons', lb_nm d5, seq_nx', t, loop_nx']
    exact f
theorem lb_end {O F : List D} {x1 u w : D} {z4 z5 : Sl} (e : m_law_sets [.fz (.tup O), .fz x1] = .ret (.fz (.lst F)) [.fz (.tup O), .fz x1]) (hf : forD (gN 4) lp_law_round_bound_1 F [.fz (.tup O), .fz x1, .fz (.tup [.int 0, .int 1]), .fz (.tup [.int 0, .int 1]), .un, .un] = .nx [.fz (.tup O), .fz x1, .fz u, .fz w, z4, z5]) :
    m_law_round_bound [.fz (.tup O), .fz x1] = .ret (.fz (.tup [u, w])) [.fz (.tup O), .fz x1] := by
  have l2 : 2 ≤ sizeLine := by decide
  unfold m_law_round_bound c_law_round_bound
  generalize lp_law_round_bound_1 = LP at *
  generalize m_law_sets = M at *
  generalize gN 4 = G at *
  walk_at "ev*"
theorem q_lrb {s : Str} {A B : List Str} (hA : s ∉ A) (hB : s ∉ B) (hl : A.length + B.length < 8) (ok : ∀ z ∈ A ++ s :: B, NameOk z) : m_law_round_bound [.fz (.tup (namesD (A ++ s :: B))), .fz (.str s)] = .ret (.fz (.tup [prD (rbUp A.length B.length (A.length + 1)), prD (rbDn A.length B.length (A.length + 1))])) [.fz (.tup (namesD (A ++ s :: B))), .fz (.str s)] := by
  have ln : (A ++ s :: B).length = A.length + B.length + 1 := by rw [List.length_append, List.length_cons]; omega
  obtain ⟨h1, h2⟩ := sets_stats hA hB
  obtain ⟨r1, r2⟩ := rb_eq A.length (by omega) B.length (by omega) hl
  obtain ⟨t1, t2⟩ := st_ok A.length (by omega) B.length (by omega) hl
  rw [← h1, List.length_map] at t1
  have hz : ∀ z ∈ setsS s (A ++ s :: B), s ∈ z ∧ z.length ≤ 8 ∧ ∀ x ∈ z, NameOk x := fun z mz => by
    obtain ⟨y, my, w, rfl, l, hw⟩ := sets_sub (s := s) (A ++ s :: B) [[]] z mz
    obtain rfl := List.mem_singleton.mp my
    rw [List.nil_append] at *
    exact ⟨h2 _ mz, by omega, fun x mx => ok x (hw x mx)⟩
  obtain ⟨z4, z5, _, _, f⟩ := lb_go (x0 := .tup (namesD (A ++ s :: B))) (s := s) (setsS s (A ++ s :: B)) 0 0 0 .un .un hz cr_zero cr_zero (by omega) (fun _ => rfl) (fun _ => rfl)
  rw [h1, r1, r2] at f
  exact lb_end (q_sets (by omega)) f
def wl16 : List Str := ["kind", "nought", "share", "uneven", "badname", "number", "ride", "text", "name", "day", "seats", "many", "taken", "rule", "done", "row"]
theorem kd_split : Txt.split (Str.ofString "kind nought share uneven badname number ride text name day seats many taken rule done row") (Str.ofString " ") = wl16 := by decide +kernel
theorem kd_run {c : Str} {fs : List (Str × D)} {F W : List D} {b0 b1 b2 b3 b4 b5 b6 b7 b8 b9 b10 b11 b12 b13 b14 b15 a0 a1 a2 a3 a4 a5 a6 a7 a8 a9 : Bool}
    (i0 : isX1 xtab c (.obj "NoKind") = some b0) (i1 : isX1 xtab c (.obj "Nought") = some b1) (i2 : isX1 xtab c (.obj "NoShare") = some b2) (i3 : isX1 xtab c (.obj "Uneven") = some b3)
    (i4 : isX1 xtab c (.obj "BadName") = some b4) (i5 : isX1 xtab c (.obj "NoNumber") = some b5) (i6 : isX1 xtab c (.obj "NoRide") = some b6) (i7 : isX1 xtab c (.obj "NoText") = some b7) (i8 : isX1 xtab c (.obj "NoName") = some b8) (i9 : isX1 xtab c (.obj "NoDay") = some b9)
    (i10 : isX1 xtab c (.obj "NoSeats") = some b10) (i11 : isX1 xtab c (.obj "TooMany") = some b11) (i12 : isX1 xtab c (.obj "Taken") = some b12) (i13 : isX1 xtab c (.obj "NoRule") = some b13) (i14 : isX1 xtab c (.obj "NothingDone") = some b14) (i15 : isX1 xtab c (.obj "NoRow") = some b15)
    (j0 : isX1 xtab c (.ty "TypeError") = some a0) (j1 : isX1 xtab c (.ty "ZeroDivisionError") = some a1) (j2 : isX1 xtab c (.ty "ArithmeticError") = some a2) (j3 : isX1 xtab c (.ty "ValueError") = some a3) (j4 : isX1 xtab c (.ty "KeyError") = some a4)
    (j5 : isX1 xtab c (.ty "LookupError") = some a5) (j6 : isX1 xtab c (.ty "IndexError") = some a6) (j7 : isX1 xtab c (.ty "OverflowError") = some a7) (j8 : isX1 xtab c (.ty "RuntimeError") = some a8) (j9 : isX1 xtab c (.ty "NotImplementedError") = some a9)
    (sp : Txt.split (Str.ofString "kind nought share uneven badname number ride text name day seats many taken rule done row") (Str.ofString " ") = wl16) (ws : wl16.map D.str = W) (k1 : ((Str.ofString " ").length == 0) = false) (k2 : (Str.ofString "kind nought share uneven badname number ride text name day seats many taken rule done row").length + 2 ≤ sizeLine)
    (hc : compD (gT 2 [(gN 5), (gN 6)]) lc_law_kinds_1 le_law_kinds_1 [5, 6] (zipD W [.bl b0, .bl b1, .bl b2, .bl b3, .bl b4, .bl b5, .bl b6, .bl b7, .bl b8, .bl b9, .bl b10, .bl b11, .bl b12, .bl b13, .bl b14, .bl b15]) [] [.fz (.err c fs), .fz (.lst [.bl b0, .bl b1, .bl b2, .bl b3, .bl b4, .bl b5, .bl b6, .bl b7, .bl b8, .bl b9, .bl b10, .bl b11, .bl b12, .bl b13, .bl b14, .bl b15]), .fz (.lst W), .un, .un, .un, .un] =
      .ok (F, [.fz (.err c fs), .fz (.lst [.bl b0, .bl b1, .bl b2, .bl b3, .bl b4, .bl b5, .bl b6, .bl b7, .bl b8, .bl b9, .bl b10, .bl b11, .bl b12, .bl b13, .bl b14, .bl b15]), .fz (.lst W), .un, .un, .un, .un]))
    (c4 : 4 ≤ sizeLine) (c3 : 3 ≤ sizeLine) (c43 : 4 + 3 ≤ sizeLine) (c73 : 7 + 3 ≤ sizeLine) (c103 : 10 + 3 ≤ sizeLine) (c133 : 13 + 3 ≤ sizeLine) (c33 : 3 + 3 ≤ sizeLine) (c63 : 6 + 3 ≤ sizeLine) (c91 : 9 + 1 ≤ sizeLine) (c1 : 1 ≤ sizeLine) (c2 : 2 ≤ sizeLine) :
    m_law_kinds [.fz (.err c fs)] = .ret (.fz (.tup [.lst F, .lst [.bl a0, .bl a1, .bl a2, .bl a3, .bl a4, .bl a5, .bl a6, .bl a7, .bl a8, .bl a9]])) [.fz (.err c fs)] := by
  unfold m_law_kinds c_law_kinds
  generalize xtab = T at *
  generalize lc_law_kinds_1 = LC at *
  generalize le_law_kinds_1 = LE at *
  generalize wl16 = WL at *
  generalize Str.ofString "kind nought share uneven badname number ride text name day seats many taken rule done row" = SS at *
  walk_at "ev*"
theorem kd_step {x0 x1 x2 x3 x4 : Sl} {w : D} {b : Bool} {acc : List D} {c : List D → List Sl → Ro (List D × List Sl)} (ha : acc.length < sizeLine) (h0 : Dull x0) (h1 : Dull x1) (h2 : Dull x2) (h3 : Dull x3) (h4 : Dull x4) :
    cD1 lc_law_kinds_1 le_law_kinds_1 c acc [5, 6] (gT 2 [(gN 5), (gN 6)] (.fz (.tup [w, .bl b])) [x0, x1, x2, x3, x4, .un, .un]) = if b = true then c (acc ++ [w]) [x0, x1, x2, x3, x4, .un, .un] else c acc [x0, x1, x2, x3, x4, .un, .un] := by
  unfold lc_law_kinds_1 le_law_kinds_1
  cases b <;> walk_at "ev*"
def onB : D → Bool
  | .tup [_, .bl b] => b
  | _ => false
def fstD : D → D
  | .tup [w, _] => w
  | _ => .non
theorem kd_comp {x0 x1 x2 x3 x4 : Sl} {ws : List D} {bs : List Bool} (hl : (zipD ws (bs.map .bl)).length ≤ 1000) (h0 : Dull x0) (h1 : Dull x1) (h2 : Dull x2) (h3 : Dull x3) (h4 : Dull x4) :
    compD (gT 2 [(gN 5), (gN 6)]) lc_law_kinds_1 le_law_kinds_1 [5, 6] (zipD ws (bs.map .bl)) [] [x0, x1, x2, x3, x4, .un, .un] = .ok (((zipD ws (bs.map .bl)).filter onB).map fstD, [x0, x1, x2, x3, x4, .un, .un]) := by
  have sz : sizeLine = 16777216 := rfl
  have cf := comp_filter (g := gT 2 [(gN 5), (gN 6)]) (ft := lc_law_kinds_1) (fe := le_law_kinds_1) (vs := [5, 6]) onB fstD (ss := [x0, x1, x2, x3, x4, .un, .un]) (ds := zipD ws (bs.map .bl)) (acc := []) (by show 0 + _ ≤ sizeLine; omega)
    fun d m acc ha c => by
      obtain ⟨i, hi⟩ := List.mem_iff_getElem?.mp m
      unfold zipD at hi
      rw [List.getElem?_zipWith] at hi
      cases q1 : ws[i]? with
      | none => rw [q1] at hi; simp at hi
      | some w =>
        rw [q1, List.getElem?_map] at hi
        cases q2 : bs[i]? with
        | none => rw [q2] at hi; simp at hi
        | some b =>
          rw [q2] at hi
          simp at hi
          subst hi
          exact kd_step ha h0 h1 h2 h3 h4
  rw [cf, List.nil_append]
abbrev K7 : List (Key × D) := [(.inr "kind", .lst [.int 0]), (.inr "nought", .lst [.int 1, .int 2]), (.inr "share", .lst [.int 2]), (.inr "uneven", .lst [.int 2]), (.inr "name", .lst [.int 4, .int 5]), (.inr "day", .lst [.int 5]), (.inr "seats", .lst [.int 5, .int 6])]
abbrev K5 : List (Key × D) := [(.inr "many", .lst [.int 2, .int 7]), (.inr "taken", .lst [.int 8]), (.inr "rule", .lst [.int 8, .int 9]), (.inr "done", .lst []), (.inr "row", .lst [])]
theorem bs_step {w : Str} {kvs : List (Key × D)} {L : List D} {k : Int} {b : Bool} {acc : List D} {c : List D → List Sl → Ro (List D × List Sl)} (g : getK kvs (.inr w) = some (.lst L)) (e : inD (.int k) (.lst L) = some b) (ha : acc.length < sizeLine) (l1 : 1 ≤ sizeLine) :
    cD1 fYes le_law_bases_1 c acc [2] (gN 2 (.fz (.int k)) [.fz (.str w), .ow .o1 (.dk kvs), .un]) = c (acc ++ [.bl b]) [.fz (.str w), .ow .o1 (.dk kvs), .un] := by
  unfold le_law_bases_1
  walk_at "ev*"
theorem r10 : rangeD 0 10 = [.int 0, .int 1, .int 2, .int 3, .int 4, .int 5, .int 6, .int 7, .int 8, .int 9] := rfl
theorem bs_comp {w : Str} {kvs : List (Key × D)} {L : List D} (f : Int → Bool) (g : getK kvs (.inr w) = some (.lst L)) (e : ∀ k ∈ [(0 : Int), 1, 2, 3, 4, 5, 6, 7, 8, 9], inD (.int k) (.lst L) = some (f k)) :
    compD (gN 2) fYes le_law_bases_1 [2] (rangeD 0 10) [] [.fz (.str w), .ow .o1 (.dk kvs), .un] = .ok ([.bl (f 0), .bl (f 1), .bl (f 2), .bl (f 3), .bl (f 4), .bl (f 5), .bl (f 6), .bl (f 7), .bl (f 8), .bl (f 9)], [.fz (.str w), .ow .o1 (.dk kvs), .un]) := by
  have sz : sizeLine = 16777216 := rfl
  have cf := comp_map (g := gN 2) (ft := fYes) (fe := le_law_bases_1) (vs := [2]) (fun d => match d with | .int k => .bl (f k) | _ => .non) (ss := [.fz (.str w), .ow .o1 (.dk kvs), .un]) (ds := rangeD 0 10) (by rw [r10]; show 10 ≤ sizeLine; omega)
    fun d m acc ha c => by
      rw [r10] at m
      simp only [List.mem_cons, List.not_mem_nil, or_false] at m
      rcases m with rfl | rfl | rfl | rfl | rfl | rfl | rfl | rfl | rfl | rfl <;> exact bs_step g (e _ (by simp)) ha (by omega)
  rw [cf, r10]
  rfl
theorem bs_run {w : Str} {kvs : List (Key × D)} {R : List D} (hu : mrgD K7 K5 = kvs) (hc : compD (gN 2) fYes le_law_bases_1 [2] (rangeD 0 10) [] [.fz (.str w), .ow .o1 (.dk kvs), .un] = .ok (R, [.fz (.str w), .ow .o1 (.dk kvs), .un])) (r : inRg 10) (l12 : 7 + 5 ≤ sizeLine) (l1 : 1 ≤ sizeLine) (l2 : 2 ≤ sizeLine) (l0 : 0 ≤ sizeLine) :
    m_law_bases [.fz (.str w)] = .ret (.ow .o1 (.lst R)) [.fz (.str w)] := by
  have up : opUpdate (.dk K7) [.dk K5] = some (.dk kvs, .non) := by
    rw [e_update, hu]
    exact if_pos l12
  clear hu
  unfold m_law_bases c_law_bases
  generalize le_law_bases_1 = LE at *
  generalize opUpdate = OU at *
  walk_at "ev*"
theorem k9_8 (fs : List (Str × D)) : m_law_kinds [.fz (.err "NoName" fs)] = .ret (.fz (.tup [.lst [.str "name"], .lst [.bl false, .bl false, .bl false, .bl false, .bl true, .bl true, .bl false, .bl false, .bl false, .bl false]])) [.fz (.err "NoName" fs)] :=
  kd_run (W := wl16.map D.str) (b0 := false) (b1 := false) (b2 := false) (b3 := false) (b4 := false) (b5 := false) (b6 := false) (b7 := false) (b8 := true) (b9 := false) (b10 := false) (b11 := false) (b12 := false) (b13 := false) (b14 := false) (b15 := false)
    (by decide +kernel) (by decide +kernel) (by decide +kernel) (by decide +kernel) (by decide +kernel) (by decide +kernel) (by decide +kernel) (by decide +kernel) (by decide +kernel) (by decide +kernel) (by decide +kernel) (by decide +kernel) (by decide +kernel) (by decide +kernel) (by decide +kernel) (by decide +kernel) (by decide +kernel) (by decide +kernel) (by decide +kernel) (by decide +kernel) (by decide +kernel) (by decide +kernel) (by decide +kernel) (by decide +kernel) (by decide +kernel) (by decide +kernel) kd_split rfl (by decide +kernel) (by decide +kernel)
    (kd_comp (bs := [false, false, false, false, false, false, false, false, true, false, false, false, false, false, false, false]) (by decide +kernel) (fun _ => rfl) (fun _ => rfl) (fun _ => rfl) (fun _ => rfl) (fun _ => rfl)) (by decide) (by decide) (by decide) (by decide) (by decide) (by decide) (by decide) (by decide) (by decide) (by decide) (by decide)
theorem b9_8 : m_law_bases [.fz (.str "name")] = .ret (.ow .o1 (.lst [.bl false, .bl false, .bl false, .bl false, .bl true, .bl true, .bl false, .bl false, .bl false, .bl false])) [.fz (.str "name")] :=
  bs_run rfl (bs_comp (L := [.int 4, .int 5]) (fun k => k == 4 || k == 5) rfl fun k m => by
    simp only [List.mem_cons, List.not_mem_nil, or_false] at m
    rcases m with rfl | rfl | rfl | rfl | rfl | rfl | rfl | rfl | rfl | rfl <;> rfl) (by unfold inRg; omega) (by decide) (by decide) (by decide) (by decide)
theorem app_len (a b : Str) : (a ++ b).length = a.length + b.length := PySem.strLen_append a b
theorem name_shw {s : Str} (h : NameOk s) : shwS s = some (reprText s) ∧ (reprText s).length ≤ 82 := by
  obtain ⟨h1, h2, h3⟩ := h
  have hl := PySem.StrLaws.reprText_len s fun c m => by have := h3 c m; omega
  have e : s.length = s.cps.toList.length := by simp [Str.length]
  have sz : sizeLine = 16777216 := rfl
  refine ⟨if_pos (by omega), by omega⟩
theorem textFrom_up : ∀ (ts : List Str) (k : Nat) (acc : Str), (textFrom k acc ts).length ≤ acc.length + piled ts
  | [], _, _ => by simp [textFrom, piled]
  | t :: ts, k, acc => by
    have := textFrom_up ts (k + 1) (acc ++ (if k > 0 then ", " else "" : String) ++ t)
    rw [piled_cons]
    simp only [app_len] at this
    have h2 : (Str.ofString (if k > 0 then ", " else "" : String)).length ≤ 2 := by
      split <;> decide +kernel
    show (textFrom (k + 1) _ ts).length ≤ _
    omega
theorem listText_up (ts : List Str) : (listText ts).length ≤ piled ts + 2 := by
  have := textFrom_up ts 0 "["
  have e1 : (Str.ofString "[").length = 1 := by decide +kernel
  have e2 : (Str.ofString "]").length = 1 := by decide +kernel
  unfold listText
  rw [app_len]; omega
theorem join_up (ts : List Str) : (Str.join ", " ts).length ≤ piled ts := by
  by_cases h : ts = []
  · subst h; exact Nat.zero_le _
  · have := join_length_add ts h; omega
theorem tupleText_up (ts : List Str) : (tupleText ts).length ≤ piled ts + 3 := by
  have := join_up ts
  have e1 : (Str.ofString "(").length = 1 := by decide +kernel
  have e2 : (Str.ofString (if ts.length == 1 then ",)" else ")" : String)).length ≤ 2 := by split <;> decide +kernel
  unfold tupleText
  simp only [app_len]; omega
theorem piled_le {b : Nat} : ∀ {ts : List Str}, (∀ t ∈ ts, t.length ≤ b) → piled ts ≤ ts.length * (b + 2)
  | [], _ => Nat.zero_le _
  | t :: ts, h => by
    have h1 := h t List.mem_cons_self
    have h2 := piled_le (ts := ts) fun t m => h t (List.mem_cons_of_mem _ m)
    rw [piled_cons, List.length_cons, Nat.add_mul]
    omega
def ShN (n : Nat) (x : D) (b : Nat) : Prop := ∃ t, shw "" noFm n x = some t ∧ t.length ≤ b
theorem ShN.le {n b c : Nat} {x : D} (h : ShN n x b) (hb : b ≤ c) : ShN n x c := by obtain ⟨t, e, l⟩ := h; exact ⟨t, e, by omega⟩
theorem sh_non {n : Nat} : ShN n .non 2000 := by
  have h1 : (Str.ofString "None").length = 4 := by decide +kernel
  exact ⟨Str.ofString "None", by cases n <;> rfl, by omega⟩
theorem sh_bl {n : Nat} {b : Bool} : ShN n (.bl b) 2000 := by
  have h1 : (Str.ofString "True").length = 4 := by decide +kernel
  have h2 : (Str.ofString "False").length = 5 := by decide +kernel
  cases b
  · exact ⟨Str.ofString "False", by cases n <;> rfl, by omega⟩
  · exact ⟨Str.ofString "True", by cases n <;> rfl, by omega⟩
theorem sh_int {n : Nat} {i : Int} (h : i.natAbs.log2 < 1920) : ShN n (.int i) 2000 := by
  have l := PyProof.Rows.int_text_len_1921 h
  refine ⟨Str.ofString (toString i), ?_, by omega⟩
  have e : shwI i = some (Str.ofString (toString i)) := if_pos h
  cases n <;> exact e
theorem sh_str {n : Nat} {s : Str} (h : (reprText s).length ≤ 2000) : ShN n (.str s) 2000 := by
  have sz : sizeLine = 16777216 := rfl
  refine ⟨reprText s, ?_, h⟩
  have e : shwS s = some (reprText s) := if_pos (by omega)
  cases n <;> exact e
theorem shwL_ok {f : D → Option Str} {b : Nat} : ∀ {xs : List D}, (∀ x ∈ xs, ∃ t, f x = some t ∧ t.length ≤ b) → ∃ ts, shwL f xs = some ts ∧ ts.length = xs.length ∧ ∀ t ∈ ts, t.length ≤ b
  | [], _ => ⟨[], rfl, rfl, fun _ m => nomatch m⟩
  | x :: r, h => by
    obtain ⟨t, e1, l1⟩ := h x List.mem_cons_self
    obtain ⟨ts, e2, l2, l3⟩ := shwL_ok (xs := r) fun y m => h y (List.mem_cons_of_mem _ m)
    refine ⟨t :: ts, ?_, by simp [l2], fun z m => ?_⟩
    · show (f x).bind (fun t => (shwL f r).map (t :: ·)) = _
      rw [e1, e2]; rfl
    · rcases List.mem_cons.mp m with rfl | m
      · exact l1
      · exact l3 z m
theorem sh_lst {n b : Nat} {xs : List D} (h : ∀ x ∈ xs, ShN n x b) : ShN (n + 1) (.lst xs) (xs.length * (b + 2) + 2) := by
  obtain ⟨ts, e, l, hl⟩ := shwL_ok h
  refine ⟨listText ts, ?_, ?_⟩
  · show (shwL (shw "" noFm n) xs).map listText = _
    rw [e]; rfl
  · have h1 := listText_up ts
    have h2 := piled_le hl
    rw [l] at h2; omega
theorem sh_tup {n b : Nat} {xs : List D} (h : ∀ x ∈ xs, ShN n x b) : ShN (n + 1) (.tup xs) (xs.length * (b + 2) + 3) := by
  obtain ⟨ts, e, l, hl⟩ := shwL_ok h
  refine ⟨tupleText ts, ?_, ?_⟩
  · show (shwL (shw "" noFm n) xs).map tupleText = _
    rw [e]; rfl
  · have h1 := tupleText_up ts
    have h2 := piled_le hl
    rw [l] at h2; omega
theorem rt {s : Str} (h : (reprText s).length ≤ 40 := by decide +kernel) : (reprText s).length ≤ 2000 := by omega
theorem mem1 {P : D → Prop} {a : D} (h : P a) : ∀ x ∈ [a], P x := fun x m => by rw [List.mem_singleton.mp m]; exact h
theorem k0 : keyTx (.inl 0) = some (Str.ofString (toString (0 : Int))) := by
  have h : (0 : Int).natAbs.log2 < 1920 := by decide
  show shwI 0 = _
  unfold shwI
  rw [if_pos h]
theorem rep_sh {d : D} {b : Nat} (h : ShN 8 d b) (hb : b ≤ 16777216) : ∃ T : Str, opReprO "" noFm [(.fz, d)] = some (.fz (.str T)) := by
  obtain ⟨t, e, l⟩ := h
  have sz : sizeLine = 16777216 := rfl
  have e2 : opReprO "" noFm [(.fz, d)] = (match opRepr [(.fz, d)] with
    | some r => some r
    | none => (shw "" noFm 8 d).bind fun t => if t.length ≤ sizeLine then some (.fz (.str t)) else none) := rfl
  rw [e2]
  cases q : opRepr [(.fz, d)] with
  | some r =>
    have q' : (toPD d).bind (fun p => if reprOk p = true then some (Sl.fz (.str p.shown)) else none) = some r := q
    obtain ⟨p, _, e4⟩ := Option.bind_eq_some_iff.mp q'
    split at e4
    · cases e4; exact ⟨_, rfl⟩
    · cases e4
  | none =>
    refine ⟨t, ?_⟩
    show (shw "" noFm 8 d).bind _ = _
    rw [e, Option.bind_some, if_pos (by omega)]
theorem rf_run {O B : List D} {x : D} (e : m_round_bound [.fz (.tpx O), .fz x] = .exc "NoName" [("name", x)] [.fz (.tpx O), .fz x]) (ek : m_law_kinds [.fz (.err "NoName" [("name", x)])] = .ret (.fz (.tup [.lst [.str "name"], .lst B])) [.fz (.err "NoName" [("name", x)])]) (eb : m_law_bases [.fz (.str "name")] = .ret (.ow .o1 (.lst B)) [.fz (.str "name")])
    (s1 : isXs xtab "NoName" [.obj "NoName"] = some true) (xh : xhas xfl "NoName" "name" = true) (n1 : isNonD (.err "NoName" [("name", x)]) = false) (q : eqD (.lst B) (.lst B) = some true) (l3 : 3 ≤ sizeLine) :
    m_law_refused [.fz (.tpx O), .fz x] = .ret (.fz (.tup [.lst [.str "name"], x, .bl true])) [.fz (.tpx O), .fz x] := by
  unfold m_law_refused c_law_refused
  generalize m_round_bound = M at *
  generalize m_law_kinds = M2 at *
  generalize m_law_bases = M3 at *
  generalize xtab = X at *
  generalize xfl = F at *
  walk_at "ev*"
theorem q_refused {ord : List Str} {x : D} (hi : inD x (.tup (namesD ord)) = some false) : m_law_refused [.fz (.tpx (namesD ord)), .fz x] = .ret (.fz (.tup [.lst [.str "name"], x, .bl true])) [.fz (.tpx (namesD ord)), .fz x] :=
  rf_run (rb_out (pl_out (wks_str ord) hi)) (k9_8 _) b9_8 (by decide +kernel) (by decide +kernel) rfl (by decide +kernel) (by decide)
theorem in_nonT (zs : List Str) : inD .non (.tup (zs.map .str)) = some false := by
  show (leafV .non).bind (fun a => (leafVs (zs.map D.str)).bind fun bs => some (inV a bs)) = _
  rw [leafVs_names]
  show some (inV .non (zs.map V.str)) = _
  congr 1
  unfold inV
  rw [List.any_map, List.any_eq_false]
  intro x _ e
  cases e
theorem in_zeroT (zs : List Str) : inD (.int 0) (.tup (zs.map .str)) = some false := by
  show (leafV (.int 0)).bind (fun a => (leafVs (zs.map D.str)).bind fun bs => some (inV a bs)) = _
  rw [leafVs_names]
  show some (inV (.int 0) (zs.map V.str)) = _
  congr 1
  unfold inV
  rw [List.any_map, List.any_eq_false]
  intro x _ e
  cases e
theorem nine_list (s : Str) : (s ++ Str.ofString "9").cps.toList = s.cps.toList ++ [57] := by
  have h := tx_app s.cps.toList [57]
  have e : Str.ofString "9" = tx [57] := by decide +kernel
  rw [e]
  have := congrArg (fun z => z.cps.toList) h
  rw [tx_of] at this
  exact this.trans (tx_list _)
theorem nine_off {s : Str} : ¬ NameOk (s ++ Str.ofString "9") := fun h => by
  obtain ⟨_, _, h3⟩ := h
  rw [nine_list] at h3
  have := h3 57 (List.mem_append.mpr (.inr List.mem_cons_self))
  omega
theorem empty_off : ¬ NameOk (Str.ofString "") := fun h => by
  have : (Str.ofString "").cps.toList.length = 0 := by decide +kernel
  have := h.1
  omega
theorem nine_sz {s : Str} (h : NameOk s) : (reprText (s ++ Str.ofString "9")).length ≤ 2000 ∧ s.length ≤ 8 := by
  obtain ⟨h1, h2, h3⟩ := h
  have hl := PySem.StrLaws.reprText_len (s ++ Str.ofString "9") fun c m => by
    rw [nine_list] at m
    rcases List.mem_append.mp m with m | m
    · have := h3 c m; omega
    · have := List.mem_singleton.mp m; omega
  have e : (s ++ Str.ofString "9").length = (s ++ Str.ofString "9").cps.toList.length := by simp [Str.length]
  have e2 : s.length = s.cps.toList.length := by simp [Str.length]
  rw [nine_list, List.length_append, List.length_singleton] at e
  exact ⟨by omega, by omega⟩
theorem rep_ref {x : D} (h : ShN 7 x 2000) : ∃ T : Str, opReprO "" noFm [(.fz, .tup [.lst [.str "name"], x, .bl true])] = some (.fz (.str T)) := by
  have l1 : (reprText "name").length ≤ 40 := by decide +kernel
  refine rep_sh (b := 16777216) ((sh_tup (n := 7) (b := 5000) (xs := [.lst [.str "name"], x, .bl true]) fun y m => ?_).le (by show 3 * (5000 + 2) + 3 ≤ 16777216; decide)) (by decide)
  simp only [List.mem_cons, List.not_mem_nil, or_false] at m
  rcases m with rfl | rfl | rfl
  · exact (sh_lst (n := 6) (b := 2000) (mem1 (sh_str (by omega)))).le (by decide)
  · exact h.le (by decide)
  · exact sh_bl.le (by decide)
def wq (bs : List Nat) (a p s l k : Nat) : List Nat := bs.take a ++ [97 + (p + s * k) % 26] ++ (bs.drop a).take (if l = 0 then 8 else k % (bs.length - a + 1))
def StepOk (s : Nat) : Prop := s = 1 ∨ s = 3 ∨ s = 5 ∨ s = 7 ∨ s = 9 ∨ s = 11 ∨ s = 15 ∨ s = 17
theorem wq_ok {bs : List Nat} {a p s l k : Nat} (hb : bs.length ≤ 7 ∧ ∀ c ∈ bs, 97 ≤ c ∧ c ≤ 122) (ha : a ≤ bs.length) : NameCs (wq bs a p s l k) := by
  obtain ⟨h2, h3⟩ := hb
  unfold wq
  refine ⟨by simp; omega, by simp; omega, fun c m => ?_⟩
  rcases List.mem_append.mp m with m | m
  · rcases List.mem_append.mp m with m | m
    · exact h3 c (List.mem_of_mem_take m)
    · rw [List.mem_singleton.mp m]
      have := Nat.mod_lt (p + s * k) (show 0 < 26 by decide)
      omega
  · exact h3 c (List.mem_of_mem_drop (List.mem_of_mem_take m))
theorem wq_at {bs : List Nat} {a p s l k : Nat} (ha : a ≤ bs.length) : (wq bs a p s l k)[a]? = some (97 + (p + s * k) % 26) := by
  unfold wq
  rw [List.append_assoc, List.getElem?_append_right (by simp; omega)]
  simp
  rw [Nat.min_eq_left ha, Nat.sub_self]; rfl
theorem wq_inj {bs : List Nat} {a p s l k j : Nat} (hs : StepOk s) (ha : a ≤ bs.length) (hk : k < 26) (hj : j < 26) (h : wq bs a p s l k = wq bs a p s l j) : k = j := by
  have c := congrArg (fun z => z[a]?) h
  rw [wq_at ha, wq_at ha] at c
  have := Option.some.inj c
  rcases hs with rfl | rfl | rfl | rfl | rfl | rfl | rfl | rfl <;> omega
def baseQ (n : Nat) (v1 v2 v3 v4 v5 v6 v7 v8 v9 v10 v11 : Sl) (k : Nat) (acc : List D) (ss : List Sl) : Prop :=
  ∃ (cs : List Nat) (d : D), acc = (cs.map fun c => tx [c]).map .str ∧ cs.length = k ∧ (∀ c ∈ cs, 97 ≤ c ∧ c ≤ 122) ∧ PenOk (n + k) d ∧ ss = [.ow .o1 d, v1, v2, v3, v4, v5, v6, v7, v8, v9, v10, v11]
theorem q_base {n : Nat} {d : D} {v1 v3 v4 v5 v6 v7 v8 v9 v11 : Sl} {m : Nat} (hp : PenOk n d) (hn : n ≤ 2 ^ 30) (hm : m ≤ 8) (h1 : Dull v1) (h3 : Dull v3) (h4 : Dull v4) (h5 : Dull v5) (h6 : Dull v6) (h7 : Dull v7) (h8 : Dull v8) (h9 : Dull v9) (h11 : Dull v11) :
    ∃ (cs : List Nat) (d' : D), compD (gN 10) fYes le_law_names_1 [10] (rangeD 0 m) [] [.ow .o1 d, v1, .fz (.str (tx abc)), v3, v4, v5, v6, v7, v8, v9, .un, v11] = .ok ((cs.map fun c => tx [c]).map .str, [.ow .o1 d', v1, .fz (.str (tx abc)), v3, v4, v5, v6, v7, v8, v9, .un, v11]) ∧
      cs.length = m ∧ (∀ c ∈ cs, 97 ≤ c ∧ c ≤ 122) ∧ PenOk (n + m) d' := by
  obtain ⟨acc, ss, e, cs, d', rfl, h, hc, hp', rfl⟩ := comp_go (g := gN 10) (ft := fYes) (fe := le_law_names_1) (vs := [10]) (baseQ n v1 (.fz (.str (tx abc))) v3 v4 v5 v6 v7 v8 v9 .un v11) (ds := rangeD 0 m) (k := 0) (acc := [])
    (ss := [.ow .o1 d, v1, .fz (.str (tx abc)), v3, v4, v5, v6, v7, v8, v9, .un, v11]) ⟨[], d, rfl, rfl, fun c x => (by cases x), hp, rfl⟩ (by
      rintro i x acc ss hx ⟨cs, d1, rfl, hl, hc, hp1, rfl⟩
      have hi : i < m := by
        have := (List.getElem?_eq_some_iff.mp hx).1
        rwa [rangeD_len] at this
      obtain ⟨r, d2, e1, a1, b1, p1⟩ := q_draw (m := 26) hp1 (by omega) (by decide) (by decide)
      obtain ⟨j, rfl⟩ : ∃ j : Nat, r = (j : Int) := ⟨r.toNat, by omega⟩
      have e2 := abc_at (j := j) (by omega)
      refine ⟨_, _, fun c => ?_, ⟨cs ++ [97 + j], d2, rfl, by simp; omega, ?_, by rw [show n + (0 + i + 1) = n + (0 + i) + 1 by omega]; exact p1, rfl⟩⟩
      · have hz : (tx abc).length ≤ sizeLine := by decide +kernel
        have hacc : ((cs.map fun c => tx [c]).map D.str).length < sizeLine := by simp; have : sizeLine = 16777216 := rfl; omega
        have ea : ((cs ++ [97 + j]).map fun c => tx [c]).map D.str = (cs.map fun c => tx [c]).map D.str ++ [.str (tx [97 + j])] := by simp
        rw [ea]
        clear hp hn hm hx hl hc hp1 a1 b1 p1 ea
        unfold le_law_names_1
        walk_at "ev*"
      · intro c mc
        rcases List.mem_append.mp mc with mc | mc
        · exact hc c mc
        · rw [List.mem_singleton.mp mc]; omega)
  rw [rangeD_len] at h hp'
  refine ⟨cs, d', e, by omega, hc, ?_⟩
  rw [show n + m = n + (0 + m) by omega]; exact hp'
theorem ones_len : ∀ bs : List Nat, ((bs.map fun c => tx [c]).map (·.length)).sum = bs.length
  | [] => rfl
  | c :: r => by
    rw [List.map_cons, List.map_cons, List.sum_cons, ones_len r, List.length_cons, tx_len]
    simp; omega
theorem tx_mid {cs : List Nat} {n m : Nat} : cutS (tx cs) (some (n : Int)) (some ((n : Int) + (m : Int))) = tx ((cs.drop n).take m) := by
  rw [cutS_is, show (n : Int) + (m : Int) = ((n + m : Nat) : Int) by omega, cut_mid, List.drop_take, Nat.add_sub_cancel_left]
def namesQ (d : D) (M : Int) (bs : List Nat) (a p s l : Nat) (i : Nat) (ss : List Sl) : Prop :=
  ∃ (v10 v11 : Sl), Dull v10 ∧ Dull v11 ∧
    ss = [.ow .o1 d, .fz (.int M), .fz (.str (tx abc)), .fz (.int (bs.length : Nat)), .fz (.str (tx bs)), .fz (.int a), .fz (.int p), .fz (.int s), .fz (.int l), .ow .o1 (.lst (((List.range i).map fun k => tx (wq bs a p s l k)).map .str)), v10, v11]
theorem q_nameturn {d : D} {M : Int} {bs : List Nat} {a p s l i : Nat} {ss : List Sl} (hb : bs.length ≤ 7 ∧ ∀ c ∈ bs, 97 ≤ c ∧ c ≤ 122) (ha : a ≤ bs.length) (hp : p < 26) (hs : StepOk s) (hl : l = 0 ∨ l = 1) (hi : i < 26) (h : namesQ d M bs a p s l i ss) :
    ∃ s1 s', gN 10 (.fz (.int (0 + (i : Nat)))) ss = .nx s1 ∧ (lp_law_names_1 s1 = .nx s' ∨ lp_law_names_1 s1 = .ct s') ∧ namesQ d M bs a p s l (i + 1) s' := by
  obtain ⟨v10, v11, h10, h11, rfl⟩ := h
  have sz : sizeLine = 16777216 := rfl
  have hs17 : s ≤ 17 := by rcases hs with rfl | rfl | rfl | rfl | rfl | rfl | rfl | rfl <;> decide
  have f1 : ((p : Int) + (s : Int) * (0 + (i : Nat))).fmod 26 = ((p + s * i) % 26 : Nat) := by
    rw [show (p : Int) + (s : Int) * (0 + (i : Nat)) = ((p + s * i : Nat) : Int) by rw [Int.zero_add]; simp]
    exact fmod_nat _ 26
  have f2 := abc_at (j := (p + s * i) % 26) (Nat.mod_lt _ (by decide))
  have c1 : CMulW (s : Int) (0 + (i : Nat)) := mulW (n := 5) (m := 5) (by omega) (by omega) (by decide)
  have s0 : (tx abc).length ≤ sizeLine := by decide +kernel
  have t1 := fun (cs : List Nat) (m : Nat) => @tx_to cs m
  have t3 := tx_app
  have hb1 := hb.1
  have ok := wq_ok (p := p) (s := s) (l := l) (k := i) hb ha
  have s1 : (tx bs).length ≤ sizeLine := by rw [tx_len]; omega
  have s2 : (tx (bs.take a)).length + (tx [97 + (p + s * i) % 26]).length ≤ sizeLine := by rw [tx_len, tx_len]; simp; omega
  have g1 : ((0 : Int) + (i : Nat)).fmod ((bs.length : Nat) - (a : Int) + 1) = (i % (bs.length - a + 1) : Nat) := by
    rw [show (0 : Int) + (i : Nat) = (i : Nat) by omega, show ((bs.length : Nat) : Int) - (a : Int) + 1 = ((bs.length - a + 1 : Nat) : Int) by omega]; exact fmod_nat _ _
  have g3 : ¬ ((bs.length : Nat) : Int) - (a : Int) + 1 = 0 := by omega
  have ll : ((List.range i).map fun k => tx (wq bs a p s l k)).map D.str ++ [.str (tx (wq bs a p s l i))] = ((List.range (i + 1)).map fun k => tx (wq bs a p s l k)).map D.str := by
    rw [List.range_succ]; simp
  have lz : (((List.range i).map fun k => tx (wq bs a p s l k)).map D.str).length < sizeLine := by simp; omega
  have run : lp_law_names_1 [.ow .o1 d, .fz (.int M), .fz (.str (tx abc)), .fz (.int (bs.length : Nat)), .fz (.str (tx bs)), .fz (.int a), .fz (.int p), .fz (.int s), .fz (.int l), .ow .o1 (.lst (((List.range i).map fun k => tx (wq bs a p s l k)).map .str)), .fz (.int (0 + (i : Nat))), v11] =
      .nx [.ow .o1 d, .fz (.int M), .fz (.str (tx abc)), .fz (.int (bs.length : Nat)), .fz (.str (tx bs)), .fz (.int a), .fz (.int p), .fz (.int s), .fz (.int l), .ow .o1 (.lst (((List.range (i + 1)).map fun k => tx (wq bs a p s l k)).map .str)), .fz (.int (0 + (i : Nat))), .fz (.str (tx ((bs.drop a).take (if l = 0 then 8 else i % (bs.length - a + 1)))))] := by
    rw [← ll]
    generalize ((List.range i).map fun k => tx (wq bs a p s l k)).map D.str = acc at *
    clear ll
    rcases hl with rfl | rfl
    · have e : wq bs a p s 0 i = bs.take a ++ [97 + (p + s * i) % 26] ++ (bs.drop a).take 8 := rfl
      have m1 : cutS (tx bs) (some (a : Int)) (some ((a : Int) + 8)) = tx ((bs.drop a).take 8) := tx_mid (m := 8)
      have s4 : (tx (bs.take a ++ [97 + (p + s * i) % 26])).length + (tx ((bs.drop a).take 8)).length ≤ sizeLine := by rw [tx_len, tx_len]; simp; omega
      rw [e]
      have e0 : ((0 : Nat) : Int) = 0 := rfl
      simp only [if_true, e0]
      clear e hb ha hp hs hs17 hi hb1 ok sz e0
      unfold lp_law_names_1
      walk_at "ev*"
    · have e : wq bs a p s 1 i = bs.take a ++ [97 + (p + s * i) % 26] ++ (bs.drop a).take (i % (bs.length - a + 1)) := rfl
      have m1 : cutS (tx bs) (some (a : Int)) (some ((a : Int) + ((i % (bs.length - a + 1) : Nat) : Int))) = tx ((bs.drop a).take (i % (bs.length - a + 1))) := tx_mid
      have s4 : (tx (bs.take a ++ [97 + (p + s * i) % 26])).length + (tx ((bs.drop a).take (i % (bs.length - a + 1)))).length ≤ sizeLine := by rw [tx_len, tx_len]; simp; omega
      rw [e]
      have e0 : ((1 : Nat) : Int) = 1 := rfl
      simp only [Nat.one_ne_zero, if_false, e0]
      clear e hb ha hp hs hs17 hi hb1 ok sz e0
      unfold lp_law_names_1
      walk_at "ev*"
  refine ⟨_, _, ?_, .inl run, _, _, fun _ => rfl, fun _ => rfl, rfl⟩
  clear run ll lz g1 g3 s1 s2 ok hb1 t1 t3 s0 c1 f1 f2 hs17 sz hb ha hp hs hl hi
  walk_at "ev*"
theorem pen_up {n m : Nat} {d : D} (h : PenOk n d) (l : n ≤ m) : PenOk m d := by
  obtain ⟨cs, a, b, e, h1, h2, h3⟩ := h
  exact ⟨cs, a, b, e, h1, by omega, h3⟩
theorem step_at {r : Int} (h0 : 0 ≤ r) (h8 : r < 8) : ∃ s : Nat, StepOk s ∧ atI [D.int 1, .int 3, .int 5, .int 7, .int 9, .int 11, .int 15, .int 17] r = some (.int (s : Int)) := by
  have : r = 0 ∨ r = 1 ∨ r = 2 ∨ r = 3 ∨ r = 4 ∨ r = 5 ∨ r = 6 ∨ r = 7 := by omega
  rcases this with rfl | rfl | rfl | rfl | rfl | rfl | rfl | rfl
  · exact ⟨1, by unfold StepOk; omega, atI_nat (j := 0) rfl⟩
  · exact ⟨3, by unfold StepOk; omega, atI_nat (j := 1) rfl⟩
  · exact ⟨5, by unfold StepOk; omega, atI_nat (j := 2) rfl⟩
  · exact ⟨7, by unfold StepOk; omega, atI_nat (j := 3) rfl⟩
  · exact ⟨9, by unfold StepOk; omega, atI_nat (j := 4) rfl⟩
  · exact ⟨11, by unfold StepOk; omega, atI_nat (j := 5) rfl⟩
  · exact ⟨15, by unfold StepOk; omega, atI_nat (j := 6) rfl⟩
  · exact ⟨17, by unfold StepOk; omega, atI_nat (j := 7) rfl⟩
def NamesOk (n M : Nat) (o : Fo) : Prop := ∃ (zs : List Str) (d : D), o = .ret (.ow .o1 (.lst (zs.map .str))) [.ow .o1 d, .fz (.int M)] ∧ zs.length = M ∧ zs.Nodup ∧ (∀ z ∈ zs, NameOk z) ∧ PenOk n d
theorem names_run {d d1 d2 d3 d4 d5 d6 : D} {m r1 r5 ia ip iS il : Int} {M L : Nat} {bs : List Nat} {zs : List D} {v10 v11 : Sl}
    (e1 : m_law_draw [.ow .o1 d, .fz (.int 8)] = .ret (.fz (.int r1)) [.ow .o1 d1, .fz (.int 8)])
    (ec : compD (gN 10) fYes le_law_names_1 [10] (rangeD 0 L) [] [.ow .o1 d1, .fz (.int m), .fz (.str (tx abc)), .fz (.int r1), .un, .un, .un, .un, .un, .un, .un, .un] = .ok ((bs.map fun c => tx [c]).map .str, [.ow .o1 d2, .fz (.int m), .fz (.str (tx abc)), .fz (.int r1), .un, .un, .un, .un, .un, .un, .un, .un]))
    (e3 : m_law_draw [.ow .o1 d2, .fz (.int (r1 + 1))] = .ret (.fz (.int ia)) [.ow .o1 d3, .fz (.int (r1 + 1))])
    (e4 : m_law_draw [.ow .o1 d3, .fz (.int 26)] = .ret (.fz (.int ip)) [.ow .o1 d4, .fz (.int 26)])
    (e5 : m_law_draw [.ow .o1 d4, .fz (.int 8)] = .ret (.fz (.int r5)) [.ow .o1 d5, .fz (.int 8)])
    (es : atI [D.int 1, .int 3, .int 5, .int 7, .int 9, .int 11, .int 15, .int 17] r5 = some (.int iS))
    (e6 : m_law_draw [.ow .o1 d5, .fz (.int 2)] = .ret (.fz (.int il)) [.ow .o1 d6, .fz (.int 2)])
    (hf : forD (gN 10) lp_law_names_1 (rangeD 0 M) [.ow .o1 d6, .fz (.int m), .fz (.str (tx abc)), .fz (.int r1), .fz (.str (tx bs)), .fz (.int ia), .fz (.int ip), .fz (.int iS), .fz (.int il), .ow .o1 (.lst []), .un, .un] = .nx [.ow .o1 d6, .fz (.int m), .fz (.str (tx abc)), .fz (.int r1), .fz (.str (tx bs)), .fz (.int ia), .fz (.int ip), .fz (.int iS), .fz (.int il), .ow .o1 (.lst zs), v10, v11])
    (r1' : inRg m) (r2' : inRg r1) (t1 : Int.toNat r1 = L) (t2 : Int.toNat m = M) (hb : bs.length ≤ 7) :
    m_law_names [.ow .o1 d, .fz (.int m)] = .ret (.ow .o1 (.lst zs)) [.ow .o1 d6, .fz (.int m)] := by
  have lt := letters_is
  have js := join_ones bs
  have j1 : strsOf ((bs.map fun c => tx [c]).map D.str) = some (bs.map fun c => tx [c]) := strsOf_map _
  have j2 : ((bs.map fun c => tx [c]).map (·.length)).sum + (bs.map fun c => tx [c]).length * (Str.ofString "").length ≤ 16777216 := by
    have e0 : (Str.ofString "").length = 0 := by decide +kernel
    rw [e0, ones_len]; omega
  clear hb
  unfold m_law_names c_law_names
  generalize Str.ofString "" = W2 at *
  rw [lt]
  clear lt
  generalize tx abc = W3 at *
  generalize tx bs = W4 at *
  walk_at "ev*"
theorem q_names {n M : Nat} {d : D} (hp : PenOk n d) (hn : n ≤ 2 ^ 29) (hM : M ≤ 26) : NamesOk (n + 12) M (m_law_names [.ow .o1 d, .fz (.int M)]) := by
  obtain ⟨r1, d1, e1, a1, b1, p1⟩ := q_draw (m := 8) hp (by omega) (by decide) (by decide)
  obtain ⟨L, hL⟩ : ∃ L : Nat, r1 = (L : Int) := ⟨r1.toNat, by omega⟩
  obtain ⟨bs, d2, ec, hbl, hbc, p2⟩ := q_base (v1 := .fz (.int M)) (v3 := .fz (.int r1)) (v4 := .un) (v5 := .un) (v6 := .un) (v7 := .un) (v8 := .un) (v9 := .un) (v11 := .un) (m := L) p1 (by omega) (by omega) (fun _ => rfl) (fun _ => rfl) (fun _ => rfl) (fun _ => rfl) (fun _ => rfl) (fun _ => rfl) (fun _ => rfl) (fun _ => rfl) (fun _ => rfl)
  subst hbl
  have hb : bs.length ≤ 7 ∧ ∀ c ∈ bs, 97 ≤ c ∧ c ≤ 122 := ⟨by omega, hbc⟩
  obtain ⟨r3, d3, e3, a3, b3, p3⟩ := q_draw (m := r1 + 1) p2 (by omega) (by omega) (by omega)
  obtain ⟨a, rfl⟩ : ∃ a : Nat, r3 = (a : Int) := ⟨r3.toNat, by omega⟩
  obtain ⟨r4, d4, e4, a4, b4, p4⟩ := q_draw (m := 26) p3 (by omega) (by decide) (by decide)
  obtain ⟨p, rfl⟩ : ∃ a : Nat, r4 = (a : Int) := ⟨r4.toNat, by omega⟩
  obtain ⟨r5, d5, e5, a5, b5, p5⟩ := q_draw (m := 8) p4 (by omega) (by decide) (by decide)
  obtain ⟨s, hs, es⟩ := step_at a5 b5
  obtain ⟨r6, d6, e6, a6, b6, p6⟩ := q_draw (m := 2) p5 (by omega) (by decide) (by decide)
  obtain ⟨l, rfl⟩ : ∃ a : Nat, r6 = (a : Int) := ⟨r6.toNat, by omega⟩
  obtain ⟨s', hf, v10, v11, h10, h11, rfl⟩ := for_range (g := gN 10) (f := lp_law_names_1) (lo := 0) (n := M) (namesQ d6 M bs a p s l)
    (ss := [.ow .o1 d6, .fz (.int M), .fz (.str (tx abc)), .fz (.int (bs.length : Nat)), .fz (.str (tx bs)), .fz (.int a), .fz (.int p), .fz (.int s), .fz (.int l), .ow .o1 (.lst []), .un, .un])
    ⟨.un, .un, fun _ => rfl, fun _ => rfl, rfl⟩
    fun i ss hi h => q_nameturn hb (by omega) (by omega) hs (by omega) (by omega) h
  have nd : ((List.range M).map fun k => tx (wq bs a p s l k)).Nodup := by
    refine List.pairwise_map.mpr (List.Pairwise.imp_of_mem ?_ (List.nodup_range (n := M)))
    intro x y mx my hne e
    exact hne (wq_inj hs (by omega) (by have := List.mem_range.mp mx; omega) (by have := List.mem_range.mp my; omega) (tx_inj e))
  have ok : ∀ z ∈ ((List.range M).map fun k => tx (wq bs a p s l k)), NameOk z := fun z m => by
    obtain ⟨k, _, rfl⟩ := List.mem_map.mp m
    unfold NameOk
    rw [tx_list]
    exact wq_ok hb (by omega)
  have key : NamesOk (n + 12) M (.ret (.ow .o1 (.lst ((((List.range M).map fun k => tx (wq bs a p s l k))).map .str))) [.ow .o1 d6, .fz (.int M)]) := ⟨_, d6, rfl, by simp, nd, ok, pen_up p6 (by omega)⟩
  rw [← hL] at hf
  rw [names_run e1 ec e3 e4 e5 es e6 hf (by unfold inRg; omega) (by unfold inRg; omega) (by omega) (by omega) hb.1]
  exact key
theorem pen_upD {n m : Nat} {d : D} (h : PenOk n d) (l : n ≤ m) : PenOk m d := by
  obtain ⟨cs, a, w, e, h0, h1, h2⟩ := h
  exact ⟨cs, a, w, e, h0, by omega, h2⟩
theorem n_1 {x0 d R : D} {N O : List D} {s : Str} {x3 x6 x7 : Sl} (e : m_round_bound [.fz (.tpx O), .fz (.str s)] = .ret (.fz R) [.fz (.tpx O), .fz (.str s)]) (h3 : Dull x3) (h7 : Dull x7) :
    fSet 6 (ffrz (fCall m_round_bound [] (fcons (fvar 4) (fcons (fvar 5) fnil)))) [.fz x0, .ow .o1 d, .fz (.lst N), x3, .fz (.tpx O), .fz (.str s), x6, x7, .un] = .nx [.fz x0, .ow .o1 d, .fz (.lst N), x3, .fz (.tpx O), .fz (.str s), .fz R, x7, .un] := by
  generalize m_round_bound = M at *
  walk_at "ev*"
theorem n_2 {x0 d a b : D} {N : List D} {x3 x4 x5 x7 : Sl} (h3 : Dull x3) (h4 : Dull x4) (h5 : Dull x5) (h7 : Dull x7) :
    fIfS (fOr (fNot (fTrv (fN (opIsi cls) (fcons (fvar 6) (fcons (fc (.ty "tuple")) fnil))))) (fTest (f2 opNeK (fN opLen2 (fcons (fvar 6) fnil)) (fc (.int 2)))))
    (fRet (fc (.bl false))) fNext [.fz x0, .ow .o1 d, .fz (.lst N), x3, x4, x5, .fz (.tup [a, b]), x7, .un] = .nx [.fz x0, .ow .o1 d, .fz (.lst N), x3, x4, x5, .fz (.tup [a, b]), x7, .un] := by
  have l2 : 2 ≤ sizeLine := by decide
  walk_at "ev*"
theorem n_3c {x0 d a p : D} {N : List D} {x3 x4 x5 x6 x7 : Sl} {acc : List D} {c : List D → List Sl → Ro (List D × List Sl)} (e : m_law_pair [.fz a] = .ret (.fz p) [.fz a]) (ha : acc.length < sizeLine) (h3 : Dull x3) (h4 : Dull x4) (h5 : Dull x5) (h6 : Dull x6) (h7 : Dull x7) :
    cD1 fYes le_law_1 c acc [8] (gN 8 (.fz a) [.fz x0, .ow .o1 d, .fz (.lst N), x3, x4, x5, x6, x7, .un]) = c (acc ++ [p]) [.fz x0, .ow .o1 d, .fz (.lst N), x3, x4, x5, x6, x7, .un] := by
  unfold le_law_1
  generalize m_law_pair = M at *
  walk_at "ev*"
theorem n_3 {x0 d a b : D} {N O P : List D} {s : Str} {x3 x7 : Sl} {E : FE} (hw : wks O = O) (hc : compD (gN 8) fYes E [8] [a, b] [] [.fz x0, .ow .o1 d, .fz (.lst N), x3, .fz (.tpx O), .fz (.str s), .fz (.tup [a, b]), x7, .un] = .ok (P, [.fz x0, .ow .o1 d, .fz (.lst N), x3, .fz (.tpx O), .fz (.str s), .fz (.tup [a, b]), x7, .un])) (e : m_law_round_bound [.fz (.tup O), .fz (.str s)] = .ret (.fz (.tup P)) [.fz (.tup O), .fz (.str s)]) (hq : eqD (.tup P) (.tup P) = some true) (h3 : Dull x3) (h7 : Dull x7) :
    fIfS (fTest (f2 opNeK (fN opTupOf (fcons (fComp (iAnyF (fvar 6)) (gN 8) fYes E 9 [8]) fnil)) (fCall m_law_round_bound [] (fcons (fWk (fvar 4)) (fcons (fvar 5) fnil)))))
    (fRet (fc (.bl false))) fNext [.fz x0, .ow .o1 d, .fz (.lst N), x3, .fz (.tpx O), .fz (.str s), .fz (.tup [a, b]), x7, .un] = .nx [.fz x0, .ow .o1 d, .fz (.lst N), x3, .fz (.tpx O), .fz (.str s), .fz (.tup [a, b]), x7, .un] := by
  have f : Tg.o1.flat = true := rfl
  generalize m_law_round_bound = M at *
  generalize gN 8 = G at *
  walk_at "ev*"
theorem n_nm {x0 d v : D} {N : List D} {x3 x4 x5 x6 x7 : Sl} (h3 : Dull x3) (h4 : Dull x4) (h6 : Dull x6) (h7 : Dull x7) : gN 5 (.fz v) [.fz x0, .ow .o1 d, .fz (.lst N), x3, x4, x5, x6, x7, .un] = .nx [.fz x0, .ow .o1 d, .fz (.lst N), x3, x4, .fz v, x6, x7, .un] := by walk_at "ev*"
theorem eq_two {q r : Rat} : eqD (.tup [prD q, prD r]) (.tup [prD q, prD r]) = some true := by
  show ((toPDs [prD q, prD r]).map PyData.tuple).bind (fun a => ((toPDs [prD q, prD r]).map PyData.tuple).bind fun b => if (SeqAt.shaped a && SeqAt.shaped b) = true then some (PyData.eqv a b) else none) = _
  have e : toPDs [prD q, prD r] = some [PyData.tuple [.int q.num, .int (q.den : Int)], PyData.tuple [.int r.num, .int (r.den : Int)]] := rfl
  rw [e]
  simp only [Option.map_some, Option.bind_some]
  have h0 : (PyData.tuple [PyData.tuple [.int q.num, .int (q.den : Int)], PyData.tuple [.int r.num, .int (r.den : Int)]]).canLay0 = true := by simp [PyData.canLay0, PyData.canLayAll0]
  have h : SeqAt.shaped (.tuple [PyData.tuple [.int q.num, .int (q.den : Int)], PyData.tuple [.int r.num, .int (r.den : Int)]]) = true := by
    show (PyData.canLay0 _ && decide (PyData.depth _ ≤ 64)) = true
    rw [Bool.and_eq_true]
    refine ⟨h0, decide_eq_true ?_⟩
    simp [PyData.depth, PyData.depthAll]
  rw [h, if_pos (show (true && true) = true from rfl), SeqAt.eqv_refl _ h0]
theorem q_one {x0 d : D} {N : List D} {ord : List Str} {s : Str} {x3 x6 x7 : Sl} (ho : OrdOk ord) (hs : s ∈ ord) (h3 : Dull x3) (h7 : Dull x7) :
    ∃ y6, Dull y6 ∧ lp_law_1 [.fz x0, .ow .o1 d, .fz (.lst N), x3, .fz (.tpx (namesD ord)), .fz (.str s), x6, x7, .un] = .nx [.fz x0, .ow .o1 d, .fz (.lst N), x3, .fz (.tpx (namesD ord)), .fz (.str s), y6, x7, .un] := by
  have sz : sizeLine = 16777216 := rfl
  have l8 := ho.l8
  obtain ⟨A, B, e⟩ := List.append_of_mem hs
  have hA : s ∉ A := fun m => by
    have nd := ho.nd
    rw [e, List.nodup_append] at nd
    exact nd.2.2 s m s List.mem_cons_self rfl
  have hB : s ∉ B := fun m => by
    have nd := ho.nd
    rw [e, List.nodup_append] at nd
    exact (List.nodup_cons.mp nd.2.1).1 m
  have hl : A.length + B.length < 8 := by
    rw [e, List.length_append, List.length_cons] at l8; omega
  have e1 := q_rb (B := B) hA hl
  have e2 := q_lrb hA hB hl (by rw [← e]; exact ho.ok)
  rw [← e] at e1 e2
  generalize rbUp A.length B.length (A.length + 1) = U at *
  generalize rbDn A.length B.length (A.length + 1) = W at *
  have c := comp_map (g := gN 8) (ft := fYes) (fe := le_law_1) (vs := [8]) (fun x => match x with | .ins _ [(_, .int a), (_, .int b)] => D.tup [.int a, .int b] | _ => .non) (ss := [.fz x0, .ow .o1 d, .fz (.lst N), x3, .fz (.tpx (namesD ord)), .fz (.str s), .fz (.tup [shD U, shD W]), x7, .un]) (ds := [shD U, shD W]) (by show 2 ≤ _; omega)
    fun x mx acc ha c => by
      rcases List.mem_cons.mp mx with rfl | mx
      · exact n_3c (q_pair U) ha h3 (fun _ => rfl) (fun _ => rfl) (fun _ => rfl) h7
      · rw [List.mem_singleton.mp mx]
        exact n_3c (q_pair W) ha h3 (fun _ => rfl) (fun _ => rfl) (fun _ => rfl) h7
  have f : [shD U, shD W].map (fun x => match x with | .ins _ [(_, .int a), (_, .int b)] => D.tup [.int a, .int b] | _ => .non) = [prD U, prD W] := rfl
  rw [f] at c
  refine ⟨.fz (.tup [shD U, shD W]), fun _ => rfl, ?_⟩
  unfold lp_law_1
  refine (fseq_nx' (n_1 e1 h3 h7)).trans ?_
  refine (fseq_nx' (n_2 h3 (fun _ => rfl) (fun _ => rfl) h7)).trans ?_
  exact n_3 (wks_str ord) c e2 eq_two h3 h7
theorem n_go {x0 d : D} {N : List D} {ord : List Str} {x3 x7 : Sl} (ho : OrdOk ord) (h3 : Dull x3) (h7 : Dull x7) : ∀ (r : List Str) (x5 x6 : Sl), (∀ s ∈ r, s ∈ ord) → Dull x5 → Dull x6 →
    ∃ y5 y6, Dull y5 ∧ Dull y6 ∧ forD (gN 5) lp_law_1 (namesD r) [.fz x0, .ow .o1 d, .fz (.lst N), x3, .fz (.tpx (namesD ord)), x5, x6, x7, .un] = .nx [.fz x0, .ow .o1 d, .fz (.lst N), x3, .fz (.tpx (namesD ord)), y5, y6, x7, .un]
  | [], x5, x6, _, h5, h6 => ⟨x5, x6, h5, h6, rfl⟩
  | s :: r, x5, x6, h, h5, h6 => by
    obtain ⟨y6, k6, e⟩ := q_one (x0 := x0) (d := d) (N := N) (x6 := x6) ho (h s List.mem_cons_self) h3 h7
    obtain ⟨z5, z6, j5, j6, f⟩ := n_go (x0 := x0) (d := d) (N := N) ho h3 h7 r (.fz (.str s)) y6 (fun z m => h z (List.mem_cons_of_mem _ m)) (fun _ => rfl) k6
    refine ⟨z5, z6, j5, j6, ?_⟩
    show forD (gN 5) lp_law_1 (.str s :: namesD r) _ = _
    rw [for_cons', n_nm h3 (fun _ => rfl) h6 h7, seq_nx', e, loop_nx', f]
theorem o_turn {x0 d x : D} {N O : List D} {T : Str} {x3 x5 x6 : Sl} (e : m_law_refused [.fz (.tpx O), .fz x] = .ret (.fz (.tup [.lst [.str "name"], x, .bl true])) [.fz (.tpx O), .fz x]) (r : opReprO "" noFm [(.fz, .tup [.lst [.str "name"], x, .bl true])] = some (.fz (.str T))) (q : eqD (.str T) (.str T) = some true) (h3 : Dull x3) (h5 : Dull x5) (h6 : Dull x6) :
    lp_law_2 [.fz x0, .ow .o1 d, .fz (.lst N), x3, .fz (.tpx O), x5, x6, .fz x, .un] = .nx [.fz x0, .ow .o1 d, .fz (.lst N), x3, .fz (.tpx O), x5, x6, .fz x, .un] := by
  have l1 : 1 ≤ sizeLine := by decide
  have l3 : 3 ≤ sizeLine := by decide
  unfold lp_law_2
  generalize m_law_refused = M at *
  generalize opReprO "" noFm = RO at *
  walk_at "ev*"
theorem o_nm {x0 d v : D} {N : List D} {x3 x4 x5 x6 x7 : Sl} (h3 : Dull x3) (h4 : Dull x4) (h5 : Dull x5) (h6 : Dull x6) : gN 7 (.fz v) [.fz x0, .ow .o1 d, .fz (.lst N), x3, x4, x5, x6, x7, .un] = .nx [.fz x0, .ow .o1 d, .fz (.lst N), x3, x4, x5, x6, .fz v, .un] := by walk_at "ev*"
theorem o_go {x0 d : D} {N : List D} {ord : List Str} {x3 x5 x6 : Sl} (h3 : Dull x3) (h5 : Dull x5) (h6 : Dull x6) : ∀ (r : List D) (x7 : Sl), (∀ x ∈ r, inD x (.tup (namesD ord)) = some false ∧ ShN 7 x 2000) → Dull x7 →
    ∃ y7, Dull y7 ∧ forD (gN 7) lp_law_2 r [.fz x0, .ow .o1 d, .fz (.lst N), x3, .fz (.tpx (namesD ord)), x5, x6, x7, .un] = .nx [.fz x0, .ow .o1 d, .fz (.lst N), x3, .fz (.tpx (namesD ord)), x5, x6, y7, .un]
  | [], x7, _, h7 => ⟨x7, h7, rfl⟩
  | x :: r, x7, h, h7 => by
    obtain ⟨h1, h2⟩ := h x List.mem_cons_self
    obtain ⟨T, rT⟩ := rep_ref h2
    have e := o_turn (x0 := x0) (d := d) (N := N) (x3 := x3) (x5 := x5) (x6 := x6) (q_refused h1) rT (by rw [e_eqS]; exact congrArg some (decide_eq_true rfl)) h3 h5 h6
    obtain ⟨y7, k7, f⟩ := o_go (x0 := x0) (d := d) (N := N) (ord := ord) h3 h5 h6 r (.fz x) (fun y m => h y (List.mem_cons_of_mem _ m)) (fun _ => rfl)
    refine ⟨y7, k7, ?_⟩
    rw [for_cons', o_nm h3 (fun _ => rfl) h5 h6, seq_nx', e, loop_nx', f]
theorem t_1 {x0 d d1 : D} {N P : List D} {i m r : Int} {x4 x5 x6 x7 : Sl} (g : atI [D.int 5, .int 8] i = some (.int m)) (e : m_law_draw [.ow .o1 d, .fz (.int m)] = .ret (.fz (.int r)) [.ow .o1 d1, .fz (.int m)]) (hc : cutD N none (some (1 + r)) = P) (h4 : Dull x4) (h5 : Dull x5) (h6 : Dull x6) (h7 : Dull x7) :
    fSet 4 (fN opTupX (fcons (fSl (fvar 2) fNoPart (fPart (f2 opAdd2 (fc (.int 1)) (fCall m_law_draw [] (fcons (fvar 1) (fcons (f2 opIx (fLst (fcons (fc (.int 5)) (fcons (fc (.int 8)) fnil))) (fvar 3)) fnil)))))) fnil)) [.fz x0, .ow .o1 d, .fz (.lst N), .fz (.int i), x4, x5, x6, x7, .un] = .nx [.fz x0, .ow .o1 d1, .fz (.lst N), .fz (.int i), .fz (.tpx P), x5, x6, x7, .un] := by
  have l2 : 2 ≤ sizeLine := by decide
  have f : Tg.o1.flat = true := by decide
  have f2 : Tg.fz.flat = true := by decide
  generalize m_law_draw = M at *
  walk_at "ev*"
theorem t_2 {x0 d : D} {N O : List D} {x3 x5 x6 x7 : Sl} {A : FS} {s' : List Sl} (hw : wks O = O) (hf : forD (gN 5) A O [.fz x0, .ow .o1 d, .fz (.lst N), x3, .fz (.tpx O), x5, x6, x7, .un] = .nx s') (h3 : Dull x3) (h5 : Dull x5) (h6 : Dull x6) (h7 : Dull x7) : fFor (iAnyF (fWk (fvar 4))) (gN 5) A [.fz x0, .ow .o1 d, .fz (.lst N), x3, .fz (.tpx O), x5, x6, x7, .un] = .nx s' := by
  generalize gN 5 = G at *
  walk_at "ev*"
theorem t_3 {x0 d : D} {N O : List D} {z o : Str} {x3 x5 x6 x7 : Sl} {A : FS} {s' : List Sl} (hw : wks O = O) (g8 : atI N 8 = some (.str z)) (g0 : atI O 0 = some (.str o)) (lo : o.length + (Str.ofString "9").length ≤ sizeLine) (hf : forD (gN 7) A [.str z, .str "", .non, .int 0, .str (o ++ Str.ofString "9")] [.fz x0, .ow .o1 d, .fz (.lst N), x3, .fz (.tpx O), x5, x6, x7, .un] = .nx s') (h3 : Dull x3) (h5 : Dull x5) (h6 : Dull x6) (h7 : Dull x7) :
    fFor (iAnyF (fLst (fcons (f2 opIx (fvar 2) (fc (.int 8))) (fcons (fc (.str "")) (fcons (fc .non) (fcons (fc (.int 0)) (fcons (f2 opAdd2 (f2 opIx (fWk (fvar 4)) (fc (.int 0))) (fc (.str "9"))) fnil))))))) (gN 7) A [.fz x0, .ow .o1 d, .fz (.lst N), x3, .fz (.tpx O), x5, x6, x7, .un] = .nx s' := by
  have l5 : 5 ≤ sizeLine := by decide
  generalize gN 7 = G at *
  generalize Str.ofString "9" = Q9 at *
  walk_at "ev*"
theorem q_turn {x0 d : D} {zs : List Str} {i n : Nat} {x4 x5 x6 x7 : Sl} (hi : i < 2) (lz : zs.length = 9) (nd : zs.Nodup) (ok : ∀ z ∈ zs, NameOk z) (hp : PenOk n d) (hn : n ≤ 2 ^ 28) (h4 : Dull x4) (h5 : Dull x5) (h6 : Dull x6) (h7 : Dull x7) :
    ∃ (d' : D) (y4 y5 y6 y7 : Sl), PenOk (n + 1) d' ∧ Dull y4 ∧ Dull y5 ∧ Dull y6 ∧ Dull y7 ∧ lp_law_3 [.fz x0, .ow .o1 d, .fz (.lst (namesD zs)), .fz (.int (i : Nat)), x4, x5, x6, x7, .un] = .nx [.fz x0, .ow .o1 d', .fz (.lst (namesD zs)), .fz (.int (i : Nat)), y4, y5, y6, y7, .un] := by
  have sz : sizeLine = 16777216 := rfl
  obtain ⟨m, hm, gm⟩ : ∃ m : Int, (m = 5 ∨ m = 8) ∧ atI [D.int 5, .int 8] ((i : Nat) : Int) = some (.int m) := by
    have : i = 0 ∨ i = 1 := by omega
    rcases this with rfl | rfl
    · exact ⟨5, .inl rfl, rfl⟩
    · exact ⟨8, .inr rfl, rfl⟩
  obtain ⟨r, d1, e1, a1, b1, p1⟩ := q_draw (m := m) hp (by omega) (by omega) (by omega)
  obtain ⟨r, rfl⟩ := Int.eq_ofNat_of_zero_le a1
  have hr : 1 + r ≤ 8 := by omega
  have ho : OrdOk (zs.take (1 + r)) := ⟨fun z m => ok z (List.mem_of_mem_take m), nd.sublist (List.take_sublist _ _), by rw [List.length_take]; omega, by rw [List.length_take]; omega⟩
  have hc : cutD (namesD zs) none (some (1 + ((r : Nat) : Int))) = namesD (zs.take (1 + r)) := by
    have c : (1 : Int) + ((r : Nat) : Int) = ((1 + r : Nat) : Int) := by omega
    rw [c, cut_to]
    show (zs.map D.str).take (1 + r) = (zs.take (1 + r)).map D.str
    rw [List.map_take]
  generalize ho2 : zs.take (1 + r) = ord at *
  obtain ⟨y5, y6, k5, k6, f1⟩ := n_go (x0 := x0) (d := d1) (N := namesD zs) (x3 := .fz (.int (i : Nat))) (x7 := x7) ho (fun _ => rfl) h7 ord x5 x6 (fun s m => m) h5 h6
  have h9 : 8 < zs.length := by omega
  have z8 : zs[8] ∉ ord := fun m => by
    rw [← ho2] at m
    have n2 := nd
    rw [← List.take_append_drop (1 + r) zs, List.nodup_append] at n2
    refine n2.2.2 _ m zs[8] (List.mem_of_getElem? (i := 8 - (1 + r)) ?_) rfl
    rw [List.getElem?_drop, show 1 + r + (8 - (1 + r)) = 8 by omega, List.getElem?_eq_getElem h9]
  have g8 : atI (namesD zs) 8 = some (.str zs[8]) := by
    have : atI (namesD zs) ((8 : Nat) : Int) = some (.str zs[8]) := atI_nat (by rw [List.getElem?_map, List.getElem?_eq_getElem h9]; rfl)
    exact this
  obtain ⟨o, hoo, g0⟩ : ∃ o, o ∈ ord ∧ atI (namesD ord) 0 = some (.str o) := by
    have l0 := ho.l0
    cases ord with
    | nil => rw [List.length_nil] at l0; omega
    | cons o r => exact ⟨o, List.mem_cons_self, (atI_nat (j := 0) rfl : atI (namesD (o :: r)) ((0 : Nat) : Int) = some (.str o))⟩
  obtain ⟨s9, l9⟩ := nine_sz (ho.ok o hoo)
  have lq : (Str.ofString "9").length = 1 := by decide +kernel
  have rn : ∀ z : Str, NameOk z → (reprText z).length ≤ 2000 := fun z hz => by have := (name_shw hz).2; omega
  have re : (reprText (Str.ofString "")).length ≤ 2000 := by
    have : (reprText (Str.ofString "")).length ≤ 40 := by decide +kernel
    omega
  obtain ⟨y7, k7, f2⟩ := o_go (x0 := x0) (d := d1) (N := namesD zs) (ord := ord) (x3 := .fz (.int (i : Nat))) (fun _ => rfl) k5 k6 [.str zs[8], .str "", .non, .int 0, .str (o ++ Str.ofString "9")] x7 (fun x mx => by
    simp only [List.mem_cons, List.not_mem_nil, or_false] at mx
    rcases mx with rfl | rfl | rfl | rfl | rfl
    · exact ⟨by rw [in_namesT, decide_eq_false z8], sh_str (rn _ (ok _ (List.getElem_mem h9)))⟩
    · exact ⟨by rw [in_namesT, decide_eq_false fun m => empty_off (ho.ok _ m)], sh_str re⟩
    · exact ⟨in_nonT ord, sh_non⟩
    · exact ⟨in_zeroT ord, sh_int (by decide)⟩
    · exact ⟨by rw [in_namesT, decide_eq_false fun m => nine_off (ho.ok _ m)], sh_str s9⟩) h7
  refine ⟨d1, .fz (.tpx (namesD ord)), y5, y6, y7, p1, fun _ => rfl, k5, k6, k7, ?_⟩
  unfold lp_law_3
  refine (fseq_nx' (t_1 gm e1 hc h4 h5 h6 h7)).trans ?_
  refine (fseq_nx' (t_2 (wks_str ord) f1 (fun _ => rfl) h5 h6 h7)).trans ?_
  exact t_3 (wks_str ord) g8 g0 (by rw [lq]; omega) f2 (fun _ => rfl) k5 k6 h7
theorem b_1 {x d : D} (e : m_law_held [.fz x] = .ret (.ow .o1 d) [.fz x]) : fSet 1 (fCall m_law_held [] (fcons (fvar 0) fnil)) [.fz x, .un, .un, .un, .un, .un, .un, .un, .un] = .nx [.fz x, .ow .o1 d, .un, .un, .un, .un, .un, .un, .un] := by
  generalize m_law_held = M at *
  walk_at "ev*"
theorem b_2 {x d d1 : D} {N : List D} (e : m_law_names [.ow .o1 d, .fz (.int 9)] = .ret (.ow .o1 (.lst N)) [.ow .o1 d1, .fz (.int 9)]) : fSet 2 (ffrz (fCall m_law_names [] (fcons (fvar 1) (fcons (fc (.int 9)) fnil)))) [.fz x, .ow .o1 d, .un, .un, .un, .un, .un, .un, .un] = .nx [.fz x, .ow .o1 d1, .fz (.lst N), .un, .un, .un, .un, .un, .un] := by
  generalize m_law_names = M at *
  walk_at "ev*"
theorem b_3 {x0 d : D} {N : List D} {A : FS} {s' : List Sl} (hf : forD (gN 3) A (rangeD 0 2) [.fz x0, .ow .o1 d, .fz (.lst N), .un, .un, .un, .un, .un, .un] = .nx s') : fFor (iRngF (fcons (fc (.int 2)) fnil)) (gN 3) A [.fz x0, .ow .o1 d, .fz (.lst N), .un, .un, .un, .un, .un, .un] = .nx s' := by
  have rg : inRg 2 := by unfold inRg; decide
  have e2 : (2 : Int).toNat = 2 := rfl
  generalize gN 3 = G at *
  walk_at "ev*"
theorem b_nm {x0 d v : D} {N : List D} {x3 x4 x5 x6 x7 : Sl} (h4 : Dull x4) (h5 : Dull x5) (h6 : Dull x6) (h7 : Dull x7) : gN 3 (.fz v) [.fz x0, .ow .o1 d, .fz (.lst N), x3, x4, x5, x6, x7, .un] = .nx [.fz x0, .ow .o1 d, .fz (.lst N), .fz v, x4, x5, x6, x7, .un] := by walk_at "ev*"
theorem b_end {x : D} {y1 y2 y3 y4 y5 y6 y7 y8 : Sl} (h : c_law [.fz x, .un, .un, .un, .un, .un, .un, .un, .un] = .rt (.fz (.bl true)) [.fz x, y1, y2, y3, y4, y5, y6, y7, y8]) : ∃ as, m_law [.fz x] = .ret (.fz (.bl true)) as := by
  refine ⟨[.fz x], ?_⟩
  unfold m_law
  generalize c_law = C at *
  walk_at "ev*"
theorem b_ret {ss : List Sl} : fRet (fc (.bl true)) ss = .rt (.fz (.bl true)) ss := by walk_at "ev*"
theorem holds (ns : List Int) (h : ns.length ≤ 63) : ∃ as, m_law [.fz (.scr ns)] = .ret (.fz (.bl true)) as := by
  have sz : sizeLine = 16777216 := rfl
  obtain ⟨d0, p0, e0⟩ := q_held ns
  obtain ⟨zs, d2, e2, lz, nd, ok, p2⟩ := q_names (M := 9) p0 (by omega) (by omega)
  obtain ⟨s', hf, d, x3, x4, x5, x6, x7, hp, h3, h4, h5, h6, h7, rfl⟩ := for_range (g := gN 3) (f := lp_law_3) (lo := 0) (n := 2) (fun i ss => ∃ d x3 x4 x5 x6 x7, PenOk (20 + i) d ∧ Dull x3 ∧ Dull x4 ∧ Dull x5 ∧ Dull x6 ∧ Dull x7 ∧ ss = [.fz (.scr ns), .ow .o1 d, .fz (.lst (namesD zs)), x3, x4, x5, x6, x7, .un])
    (ss := [.fz (.scr ns), .ow .o1 d2, .fz (.lst (namesD zs)), .un, .un, .un, .un, .un, .un]) ⟨d2, .un, .un, .un, .un, .un, pen_upD p2 (by omega), fun _ => rfl, fun _ => rfl, fun _ => rfl, fun _ => rfl, fun _ => rfl, rfl⟩
    fun i ss hi hI => by
      obtain ⟨d, x3, x4, x5, x6, x7, hp, h3, h4, h5, h6, h7, rfl⟩ := hI
      obtain ⟨d', y4, y5, y6, y7, hp', k4, k5, k6, k7, e⟩ := q_turn (x0 := .scr ns) hi lz nd ok hp (by omega) h4 h5 h6 h7
      rw [show (0 : Int) + ((i : Nat) : Int) = ((i : Nat) : Int) from Int.zero_add _]
      exact ⟨_, _, b_nm h4 h5 h6 h7, .inl e, d', .fz (.int (i : Nat)), y4, y5, y6, y7, hp', fun _ => rfl, k4, k5, k6, k7, rfl⟩
  apply b_end
  unfold c_law
  refine (fseq_nx' (b_1 e0)).trans ?_
  refine (fseq_nx' (b_2 e2)).trans ?_
  refine (fseq_nx' (b_3 hf)).trans ?_
  exact b_ret
end Lw
namespace Lw
open PySem PySem.Spec PyProof.Rows L2 Rt Mi
theorem bind_law {K : PySem.W.Frag} {mg : Str → Option Value} (T : Txt K mg) (s : Shared) (v : Value) : BindsTo s (fdA K ("law", none)) ⟨[v], []⟩ [("_law_script", v)] :=
  FunD.bindsA (ps := ["_law_script"]) (F_law T) (fun _ _ _ _ _ _ us hl => match us, hl with | [_], _ => rfl) s [v] rfl
end Lw
open PySem PySem.W PySem.Calls PyProof.Rows in
set_option maxRecDepth 100000 in
set_option maxHeartbeats 0 in
theorem PySem.Challenge.cw_rideturns_k37_bounds_of_rounds_holds : PySem.Challenge.rw_rideturns_k37_bounds_of_rounds.Holds := by
  w_on; o_law
  refine HandSHeadRun.head_any (r := Lw.R) (q := PySem.W.view Lw.R.prog [38]) (H := Lw.hk) (ob := Lw.ob) (M := 20000) (loose := Lw.loose) (d := HandSHeadRun.topDef Lw.R.prog 38) (kwd := []) Lw.ob_eq
    (by kernel_rfl) (fun s => by kernel_rfl) Lw.run (by kernel_rfl) (by kernel_rfl) (by kernel_rfl) (by rfl) (by first | assumption | decide +kernel) (by decide +kernel) ⟨rfl, rfl, rfl, rfl, rfl, by decide +kernel⟩ ?hw ?hc
  case hw => w_witness2
  case hc =>
    refine Mi.walk_ofG (l := PySem.Challenge.rw_rideturns_k37_bounds_of_rounds) (n := 63) (k := 11) (x := "_law_script") (CX := fun o H s E u s' => ∃ w, L2.CX (PySem.Challenge.rw_rideturns_k37_bounds_of_rounds).prog w o H s E u s') rfl (by decide) (by kernel_rfl) ⟨rfl, by decide, by decide⟩ ?F Rt.end_cx
    intro w mg fa h Y G hmg0
    obtain ⟨K, KX, c⟩ := Y
    have T : Lw.Txt K mg := ⟨h, w, KX, G, c⟩
    have hmg : mg ("law" : PySem.Str) = some (.ref fa) := by
      have e : (HandSHeadRun.topDef Lw.R.prog 38).name = ("law" : PySem.Str) := by kernel_rfl
      rw [← e]
      exact hmg0
    have e := hmg.symm.trans (Lw.T_glo T 58)
    cases e
    exact ⟨K, _, Mi.spM K Lw.m_law, KX, Lw.bind_law T, fun H a ns hl ho hS => Mi.law_sp rfl ho hS (Lw.holds ns hl), fun base hb hg => Mi.FnG.cx (fun o H s E u s' h => ⟨w, h⟩) (Lw.ok_law T)⟩
