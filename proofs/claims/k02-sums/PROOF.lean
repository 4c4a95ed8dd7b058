import PyProof.Rows.All
import Wide.All
import OpenK.AllK
import Wide.FinOn
import PyProof.NoPylong
import KE.KStateDown
import HandS.ForMost
import HandS.Exc
import HandS.WordsExc
import HandS.Defaults
import HandS.MakeKw
import HandS.IsInst
import HandS.Wide
import HandS.CallRecv
import HandS.HeadWalk
import HandS.Flow
import HandS.More
import HandS.OwnEq
import HandS.DeepEq
import HandS.FStr
import KE.KExcInit
import HandS.ExcInit
import HandS.TryOnly
import HandS.TryMany
import HandS.ExcField
import HandS.CallSlots
import HandS.Head0
import HandS.Head1
import HandS.Head2
import HandS.HeadEnd
import HandS.HeadHook1
import HandS.HeadHook2
import HandS.HeadHook3
import HandS.HeadHook4
import PySem.Challenge.RW_rideturns_k02_sums_of_shares
set_option exponentiation.threshold 10000
set_option Elab.async false
set_option linter.all false
set_option maxRecDepth 100000
set_option maxHeartbeats 4000000

/-! Lib: universal value operations, step lemmas for readings, heaps that grow. -/
namespace Rt
open PySem PySem.Spec PyProof.Rows L2
/-! ### value operations of any kind -/
section
variable {X : Cx}
def CDivZ (_ j : Int) : Prop := j ≠ 0 ∧ j.natAbs.log2 < 9000
theorem op_fdivZ : OpR X (binaryOp .FloorDiv) (rI CDivZ fun i j => .int (i.fdiv j)) := opI fun i j _ _ _ _ _ hc q =>
  floordiv_int hc.1 q (.inl (PyProof.noPylong_of_log2 hc.2))
def rSubI : R2 := rI0 fun i j => .int (i - j)
def rFdivZ : R2 := rI CDivZ fun i j => .int (i.fdiv j)
def rModZ : R2 := rI (fun _ j => j ≠ 0) fun i j => .int (i.fmod j)
def rPowI : R2 := rI CPow fun i j => .int (i ^ j.toNat)
def rAddI : R2 := rI0 fun i j => .int (i + j)
def rAddStr : R2 := fun x y H Q => ∃ i j, x = .str i ∧ y = .str j ∧ i.length + j.length ≤ sizeLine ∧ Q (.str (i ++ j)) H
def rAddU (K : PySem.W.Frag) : R2 := fun x y H Q => rAddI x y H Q ∨ (rAddStr x y H Q ∨ (rCat x y H Q ∨ rCatT K x y H Q))
def rMulI : R2 := rI CMulW fun i j => .int (i * j)
def rMulU : R2 := fun x y H Q => rMulI x y H Q ∨ rRep x y H Q
theorem op_subU : OpR X (binaryOp .Sub) rSubI := op_sub
theorem op_modU : OpR X (binaryOp .Mod) rModZ := op_modN
theorem op_powU : OpR X (binaryOp .Pow) rPowI := op_pow
theorem op_fdivU : OpR X (binaryOp .FloorDiv) rFdivZ := op_fdivZ
theorem op_addU : OpR X (binaryOp .Add) (rAddU X.K) := op_add.or (op_add_str.or (op_cat.or op_catT))
theorem op_mulU : OpR X (binaryOp .Mult) rMulU := op_mulW.or op_rep
def rEqU (K : PySem.W.Frag) : R2 := fun x y H Q => rEq x y H Q ∨ rEqD K x y H Q
def rNeU (K : PySem.W.Frag) : R2 := fun x y H Q => rNe x y H Q ∨ rNeD K x y H Q
theorem op_eqU (hu : X.A.units + 64 < cLine) : OpR X (compareOp .Eq) (rEqU X.K) := op_eq.or (op_eqD hu)
theorem op_neU (hu : X.A.units + 64 < cLine) : OpR X (compareOp .NotEq) (rNeU X.K) := op_ne.or (op_neD hu)
def rLtI : R2 := rI0 fun i j => .bl (decide (i < j))
def rLeI : R2 := rI0 fun i j => .bl (decide (i ≤ j))
def rGtI : R2 := rI0 fun i j => .bl (decide (j < i))
def rGeI : R2 := rI0 fun i j => .bl (decide (j ≤ i))
theorem op_ltU : OpR X (compareOp .Lt) rLtI := op_lt
theorem op_leU : OpR X (compareOp .LtE) rLeI := op_le
theorem op_gtU : OpR X (compareOp .Gt) rGtI := op_gt
theorem op_geU : OpR X (compareOp .GtE) rGeI := op_ge
def rIsN0 : R2 := fun x y H Q => y = .non ∧ Q (.bl (decide (x = .non))) H
def rNotN0 : R2 := fun x y H Q => y = .non ∧ Q (.bl (!decide (x = .non))) H
theorem op_isU : OpR X (compareOp .Is) rIsN0 := op_isN
theorem op_isnotU : OpR X (compareOp .IsNot) rNotN0 := op_notN
def rIxD : R2 := fun x y H Q => ∃ a v, x = .ref a ∧ DGet H a y (some v) ∧ Q v H
theorem ix_dict (hu : X.A.units + 1 < cLine) : IxR X rIxD := by
  intro value slice pins s σ H x y v u Q I rx ry h hs
  obtain ⟨a, z, rfl, g, q⟩ := h
  obtain rfl : v = Value.ref a := rx
  have hT := dict_typeIs I g
  unfold subscriptTail
  refine wpAny_bind ?_
  rw [getitemInPython_of_ne hT.not_modules]
  refine wpAny_bind (wpAny_specialOf hT PySem.F.slot_dict_getitem.lookup ?_)
  have fin : wpAny (model X.prog X.w) X.A (subscripted slice false (.ref a) u) (fun r s₃ => wpAny (model X.prog X.w) X.A (letTemporaryGo value (.ref a) r >>= fun _ => pure r) (EP X pins σ Q) X.xe s₃) X.xe s := by
    rw [hs]
    exact wpAny_operating (d_getItem hu I g ry fun w' s3 I3 rw' => wpAny_bind (wpAny_letTemporaryGo (wpAny_pure ⟨z, H, I3, rw', q⟩)))
  exact wpAny_pure (wpAny_bind fin)
def rIxU (K : PySem.W.Frag) : R2 := fun x y H Q => rIx K x y H Q ∨ rIxD x y H Q
theorem ix_U (hu : X.A.units + 1 < cLine) : IxR X (rIxU X.K) := ix_seq.or (ix_dict hu)
theorem PSet.or {t t' : V → V → V → Hp → (Hp → Prop) → Prop} (h : PSet X t) (h' : PSet X t') : PSet X (fun o i v H Q => t o i v H Q ∨ t' o i v H Q) := by
  intro pins s σ H o i v ov iv u Q I ro ri rv q
  rcases q with q | q
  · exact h pins s σ H o i v ov iv u Q I ro ri rv q
  · exact h' pins s σ H o i v ov iv u Q I ro ri rv q
def rSetD : V → V → V → Hp → (Hp → Prop) → Prop := fun o i v H Q => ∃ a H', o = .ref a ∧ DPut H a i v H' ∧ Q H'
theorem set_dict (hu : X.A.units + 1 < cLine) : PSet X rSetD := by
  intro pins s σ H o i v ov iv u Q I ro ri rv h
  obtain ⟨a, H', rfl, g, q⟩ := h
  obtain rfl : ov = Value.ref a := ro
  exact d_setItem hu I g ri rv fun s' I' => ⟨H', I', q⟩
def rSetU : V → V → V → Hp → (Hp → Prop) → Prop := fun o i v H Q => rSetL o i v H Q ∨ rSetD o i v H Q
theorem set_U (hu : X.A.units + 1 < cLine) : PSet X rSetU := PSet.or set_list (set_dict hu)
theorem attrBase_of {o : Expr} {a : Str} {env : Env} (h : (match o with | .Call (.Name _ _) [] [] _ => false | _ => true) = true) : attributeBase o a env (eval o env) = eval o env := by
  unfold attributeBase
  split
  · simp at h
  · rfl
/-- the tree of a method call on one line -/
theorem mtree {o : Expr} {m : Str} {apos pos : Pos} {args : List Expr} {env : Env} (hb : attributeBase o m env (eval o env) = eval o env)
    (hf : methodCallForm (args.length + ([] : List Keyword).length) (backTo pos (starEach args env)) (backToKw pos (keywordEach [] env)) = true) (hl : (apos.endLine == pos.line) = true) :
    eval (.Call (.Attribute o m apos) args [] pos) env = (do
      let ov ← eval o env
      standAt apos.atName
      let (f, first) ← holding [ov] (getMethod ov m (plainOf o env))
      callWith pos f first (backTo pos (starEach args env)) (backToKw pos (keywordEach [] env))) :=
  mcall_of hb fun _ => mcall_line hf hl
def rNegI : V → Hp → VK → Prop := rU fun i => .int (-i)
theorem un_negU : UnR X (unaryOp .USub) rNegI := un_neg
def rAbsV : List V → Hp → VK → Prop := fun xs H Q => ∃ i, xs = [.int i] ∧ Q (.int (if i < 0 then -i else i)) H
theorem call_absU : CallR X (.builtin "abs") rAbsV := call_abs
def rLenU (K : PySem.W.Frag) : List V → Hp → VK → Prop := fun xs H Q => (∃ p ys, xs = [.ref p] ∧ (SqL K H p ys ∨ SqT K H p ys) ∧ Q (.int ys.length) H) ∨ ∃ z, xs = [.str z] ∧ z.length ≤ sizeLine ∧ Q (.int z.length) H
theorem call_lenU : CallR X (.builtin "len") (rLenU X.K) := call_len_seq.or call_len_str
def rListOf (K : PySem.W.Frag) : List V → Hp → VK → Prop := fun xs H Q => ∃ p ys, xs = [.ref p] ∧ (SqL K H p ys ∨ SqT K H p ys) ∧ ∀ l, H l = none → Q (.ref l) (upd H l (.lst ys))
theorem call_listU : CallR X (.type "list") (rListOf X.K) := call_list_of
def rTupOf (K : PySem.W.Frag) : List V → Hp → VK → Prop := fun xs H Q => ∃ p ys, xs = [.ref p] ∧ ((SqL K H p ys ∧ ∀ l, H l = none → Q (.ref l) (upd H l (.tup ys))) ∨ (SqT K H p ys ∧ Q (.ref p) H))
theorem call_tupU : CallR X (.type "tuple") (rTupOf X.K) := call_tuple_of
def rIsiU (K : PySem.W.Frag) : List V → Hp → VK → Prop := fun xs H Q => rIsi K xs H Q ∨ rIsiT K xs H Q
theorem call_isiU : CallR X (.builtin "isinstance") (rIsiU X.K) := call_isi.or call_isiT
def tTrv (K : PySem.W.Frag) (ta : TE) : TT := fun σ H Q => ta σ H fun x H' => ∃ k, TruV K x H' k ∧ Q k H'
theorem pt_trv {a : Expr} {ta : TE} (ha : PE X a ta) (he : ∀ whole, isTrue a X.env whole = (do let v ← whole; standAt a.pos; holding [v] (truthy v)) := by intro _; rfl) : PT X a (tTrv X.K ta) := pt_truth ha he
theorem PI.or {tg e : Expr} {w1 w2 : TI} (h1 : PI X tg e w1) (h2 : PI X tg e w2) : PI X tg e (fun σ H R => w1 σ H R ∨ w2 σ H R) := by
  refine ⟨fun pins s σ H R I h => ?_⟩
  rcases h with h | h
  · exact h1.run pins s σ H R I h
  · exact h2.run pins s σ H R I h
def iSeq (K : PySem.W.Frag) (t : TE) : TI := fun σ H R => iList K t σ H R ∨ iTup K t σ H R
theorem pi_seq {tg e : Expr} {t : TE} (h : PE X e t) : PI X tg e (iSeq X.K t) := PI.or (pi_list h) (pi_tup h)
def rSlU (K : PySem.W.Frag) : V → Option Int → Option Int → Hp → VK → Prop := fun x lo hi H Q => rSlL K x lo hi H Q ∨ rSlT K x lo hi H Q
theorem sl_U : SlR X (rSlU X.K) := sl_list.or sl_tup
/-- f(k = v, ..): keywords alone -/
theorem pe_callK0 {CX : CXT} {k : Nat} {f : Addr} {fd : FuncData} {ps ks : List Str} {sp : Sp} {E : XK} {x : Str} {p pos : Pos} {kws : List Keyword} {tk : TA} {g : List Value → List Value → List Value} {gV : List V → List V → List V}
    (F : FnOk X.prog X.w X.K X.mg X.base CX k f fd ps sp) (hr : Room k X.A) (hg : Gl X x) (hm : X.mg x = some (.ref f)) (hk : PySem.W.keepIn X.K (.ref f) = true) (hb : KBn X.K fd ps 0 ks g gV) (hx : Passes CX X E) (hkw : PK X kws tk)
    (hall : (backToKw pos (keywordEach kws X.env)).all (·.1.isSome) = true := by rfl) (hks : (backToKw pos (keywordEach kws X.env)).filterMap (·.1) = ks := by rfl) (hdb : (x == ("__debug__" : Str)) = false := by decide)
    (hpl : ((backTo pos (starEach [] X.env)).any (·.1) || (backToKw pos (keywordEach kws X.env)).any (·.1.isNone)) = false := by rfl) : PE X (.Call (.Name x p) [] kws pos) (tCallN 0 ks.length sp gV E tNil tk) := by
  constructor
  intro pins s σ H Q I h
  refine wpAny_Call_Name_kw (ld_glob I hg hm ?_ hdb)
  refine PySem.W.callWith_KW0 (h₀ := X.base) I.ok.mod.kin hk hall (thn (hkw.run pos pins s σ H _ I h) fun ws s2 z => ?_) hpl
  obtain ⟨zs, H2, I2, rz, l1, l2, q2⟩ := z
  refine ⟨I2.kIn, ?_⟩
  rw [hks]
  have nn : Vals ([] : List V) ([] : List Value) := .nil
  exact run_fnN F hr hb hx I2 nn rz rfl l2 q2
end
/-! ### heaps -/
def Ex (H H' : Hp) : Prop := ∀ a o, H a = some o → H' a = some o
theorem Ex.refl (H : Hp) : Ex H H := fun _ _ h => h
theorem Ex.tr {H H1 H2 : Hp} (a : Ex H H1) (b : Ex H1 H2) : Ex H H2 := fun c o h => b c o (a c o h)
theorem Ex.to {H H' : Hp} {a : Addr} {o : HO} (e : Ex H H') (h : H a = some o) : H' a = some o := e a o h
theorem Ex.upd {H : Hp} {p : Addr} {o : HO} (h : H p = none) : Ex H (upd H p o) := fun a u e => by rw [upd_ne (ne_of_none e h)]; exact e
/-- all but l is kept -/
def Xb (l : Addr) (H H' : Hp) : Prop := ∀ a o, a ≠ l → H a = some o → H' a = some o
theorem Xb.to {H H' : Hp} {a l : Addr} {o : HO} (e : Xb l H H') (h : H a = some o) (n : a ≠ l) : H' a = some o := e a o n h
theorem Xb.refl (l : Addr) (H : Hp) : Xb l H H := fun _ _ _ h => h
theorem Xb.tr {l : Addr} {H H1 H2 : Hp} (a : Xb l H H1) (b : Xb l H1 H2) : Xb l H H2 := fun c o n h => b c o n (a c o n h)
theorem Ex.xb {l : Addr} {H H' : Hp} (e : Ex H H') : Xb l H H' := fun a o _ h => e a o h
theorem Xb.upd {H : Hp} {p : Addr} {o : HO} : Xb p H (upd H p o) := fun a u n e => by rw [upd_ne n]; exact e
/-- an object that H did not know is changed: as seen from H all is kept -/
theorem Ex.xbNew {l : Addr} {H H1 H2 : Hp} (n : H l = none) (e : Ex H H1) (b : Xb l H1 H2) : Ex H H2 := fun c o h => b c o (ne_of_none h n) (e c o h)
theorem Ex.seqL {K : PySem.W.Frag} {H H' : Hp} {a : Addr} {xs : List V} (e : Ex H H') (h : SqL K H a xs) : SqL K H' a xs := by
  rcases h with (h | ⟨o, h⟩) | h
  · exact .inl (.inl (e _ _ h))
  · exact .inl (.inr ⟨o, e _ _ h⟩)
  · exact .inr h
theorem Ex.seqT {K : PySem.W.Frag} {H H' : Hp} {a : Addr} {xs : List V} (e : Ex H H') (h : SqT K H a xs) : SqT K H' a xs := by
  rcases h with (h | ⟨o, h⟩) | h
  · exact .inl (.inl (e _ _ h))
  · exact .inl (.inr ⟨o, e _ _ h⟩)
  · exact .inr h
theorem fresh_back {H H' : Hp} {p : Addr} (e : Ex H H') (h : H' p = none) : H p = none := by
  cases q : H p with
  | none => rfl
  | some o => rw [e _ _ q] at h; cases h
theorem dI (a b : Int) : decide (V.int a = V.int b) = decide (a = b) := by
  rw [decide_eq_decide]
  exact ⟨V.int.inj, congrArg _⟩
theorem dS (a b : Str) : decide (V.str a = V.str b) = decide (a = b) := by
  rw [decide_eq_decide]
  exact ⟨V.str.inj, congrArg _⟩
/-! ### steps: expressions -/
section
variable {K : PySem.W.Frag} {σ σ' : L2.St} {H : Hp} {Q : VK} {ta tb tc te : TE} {i : Nat} {v x y : V} {D : Ends} {tz tu tw : TS} {tt tt2 : TT} {t : TA} {R : List V → Hp → Prop} {B : Bool → Hp → Prop}
theorem g_var (h : σ[i]? = some (some v)) (k : Q v H) : tVar i σ H Q := ⟨v, h, k⟩
theorem g_c (k : Q v H) : tC v σ H Q := k
theorem g_op {r : R2} (k : ta σ H fun x H1 => tb σ H1 fun y H2 => r x y H2 Q) : tOp r ta tb σ H Q := k
theorem g_un {r : V → Hp → VK → Prop} (k : ta σ H fun x H1 => r x H1 Q) : tUn r ta σ H Q := k
theorem g_neg {j : Int} (k : Q (.int (-j)) H) : rU (fun i => .int (-i)) (.int j) H Q := ⟨j, rfl, k⟩
theorem g_addI {a b : Int} (k : Q (.int (a + b)) H) : rAddU K (.int a) (.int b) H Q := .inl ⟨a, b, rfl, rfl, k⟩
theorem g_addS {a b : Str} (h : a.length + b.length ≤ sizeLine) (k : Q (.str (a ++ b)) H) : rAddU K (.str a) (.str b) H Q := .inr (.inl ⟨a, b, rfl, rfl, h, k⟩)
theorem g_addL {a b : Addr} {xs ys : List V} (h1 : H a = some (.lst xs)) (h2 : H b = some (.lst ys)) (h : xs.length + ys.length ≤ sizeLine) (k : ∀ p H', H p = none → Ex H H' → H' p = some (.lst (xs ++ ys)) → Q (.ref p) H') : rAddU K (.ref a) (.ref b) H Q :=
  .inr (.inr (.inl ⟨a, b, xs, ys, rfl, rfl, h1, h2, h, fun p np => k p _ np (Ex.upd np) upd_same⟩))
theorem g_sub {a b : Int} (k : Q (.int (a - b)) H) : rSubI (.int a) (.int b) H Q := ⟨a, b, rfl, rfl, k⟩
theorem g_mulI {a b : Int} (h : CMulW a b) (k : Q (.int (a * b)) H) : rMulU (.int a) (.int b) H Q := .inl ⟨a, b, rfl, rfl, h, k⟩
theorem g_fdiv {a b : Int} (h : CDivZ a b) (k : Q (.int (a.fdiv b)) H) : rFdivZ (.int a) (.int b) H Q := ⟨a, b, rfl, rfl, h, k⟩
theorem g_mod {a b : Int} (h : b ≠ 0) (k : Q (.int (a.fmod b)) H) : rModZ (.int a) (.int b) H Q := ⟨a, b, rfl, rfl, h, k⟩
theorem g_pow {a b : Int} (h : CPow a b) (k : Q (.int (a ^ b.toNat)) H) : rPowI (.int a) (.int b) H Q := ⟨a, b, rfl, rfl, h, k⟩
theorem g_eqI {a b : Int} (k : Q (.bl (decide (a = b))) H) : rEqU K (.int a) (.int b) H Q := .inl ⟨rfl, by rw [dI]; exact k⟩
theorem g_neI {a b : Int} (k : Q (.bl (!decide (a = b))) H) : rNeU K (.int a) (.int b) H Q := .inl ⟨rfl, by rw [dI]; exact k⟩
theorem g_eqS {a b : Str} (k : Q (.bl (decide (a = b))) H) : rEqU K (.str a) (.str b) H Q := .inl ⟨rfl, by rw [dS]; exact k⟩
theorem g_neS {a b : Str} (k : Q (.bl (!decide (a = b))) H) : rNeU K (.str a) (.str b) H Q := .inl ⟨rfl, by rw [dS]; exact k⟩
theorem g_eqV (h : scal x y = true) (k : Q (.bl (decide (x = y))) H) : rEqU K x y H Q := .inl ⟨h, k⟩
theorem g_neV (h : scal x y = true) (k : Q (.bl (!decide (x = y))) H) : rNeU K x y H Q := .inl ⟨h, k⟩
theorem g_eqD {d e : PyData} (h1 : Dp K H x d) (h2 : Dp K H y e) (s1 : SeqAt.shaped d = true) (s2 : SeqAt.shaped e = true) (k : Q (.bl (PyData.eqv d e)) H) : rEqU K x y H Q := .inr ⟨d, e, h1, h2, s1, s2, k⟩
theorem g_neD {d e : PyData} (h1 : Dp K H x d) (h2 : Dp K H y e) (s1 : SeqAt.shaped d = true) (s2 : SeqAt.shaped e = true) (k : Q (.bl (!PyData.eqv d e)) H) : rNeU K x y H Q := .inr ⟨d, e, h1, h2, s1, s2, k⟩
theorem g_lt {a b : Int} (k : Q (.bl (decide (a < b))) H) : rLtI (.int a) (.int b) H Q := ⟨a, b, rfl, rfl, k⟩
theorem g_le {a b : Int} (k : Q (.bl (decide (a ≤ b))) H) : rLeI (.int a) (.int b) H Q := ⟨a, b, rfl, rfl, k⟩
theorem g_gt {a b : Int} (k : Q (.bl (decide (b < a))) H) : rGtI (.int a) (.int b) H Q := ⟨a, b, rfl, rfl, k⟩
theorem g_ge {a b : Int} (k : Q (.bl (decide (b ≤ a))) H) : rGeI (.int a) (.int b) H Q := ⟨a, b, rfl, rfl, k⟩
theorem g_isN (k : Q (.bl (decide (x = .non))) H) : rIsN0 x .non H Q := ⟨rfl, k⟩
theorem g_notN (k : Q (.bl (!decide (x = .non))) H) : rNotN0 x .non H Q := ⟨rfl, k⟩
theorem g_ixL {p : Addr} {xs : List V} {j : Int} (h : SqL K H p xs) (hj : atI xs j = some v) (k : Q v H) : rIxU K (.ref p) (.int j) H Q := .inl (.inl ⟨p, xs, j, v, rfl, rfl, h, hj, k⟩)
theorem g_ixT {p : Addr} {xs : List V} {j : Int} (h : SqT K H p xs) (hj : atI xs j = some v) (k : Q v H) : rIxU K (.ref p) (.int j) H Q := .inl (.inr (.inl ⟨p, xs, j, v, rfl, rfl, h, hj, k⟩))
theorem g_ixDS {p : Addr} {kvs : List (Key × V)} {z : Str} (h : H p = some (.dK kvs)) (hv : valV kvs (.inr z) = some v) (k : Q v H) : rIxU K (.ref p) (.str z) H Q := .inr ⟨p, v, rfl, hv ▸ DGet.k (k := Sum.inr z) h, k⟩
theorem g_ixDI {p : Addr} {kvs : List (Key × V)} {z : Int} (h : H p = some (.dK kvs)) (hv : valV kvs (.inl z) = some v) (k : Q v H) : rIxU K (.ref p) (.int z) H Q := .inr ⟨p, v, rfl, hv ▸ DGet.k (k := Sum.inl z) h, k⟩
theorem g_nil (k : R [] H) : tNil σ H R := k
theorem g_cons (k : ta σ H fun x H1 => t σ H1 fun xs H2 => R (x :: xs) H2) : tCons ta t σ H R := k
/-- what a new tuple, a new list leaves -/
def NT (xs : List V) (H : Hp) (Q : VK) : Prop := xs.length ≤ sizeLine ∧ ∀ p, H p = none → Q (.ref p) (upd H p (.tup xs))
def NL (xs : List V) (H : Hp) (Q : VK) : Prop := xs.length ≤ sizeLine ∧ ∀ p, H p = none → Q (.ref p) (upd H p (.lst xs))
theorem n_tup {xs : List V} (h : xs.length ≤ sizeLine) (k : ∀ p H', H p = none → Ex H H' → H' p = some (.tup xs) → Q (.ref p) H') : NT xs H Q := ⟨h, fun p np => k p _ np (Ex.upd np) upd_same⟩
theorem n_lst {xs : List V} (h : xs.length ≤ sizeLine) (k : ∀ p H', H p = none → Ex H H' → H' p = some (.lst xs) → Q (.ref p) H') : NL xs H Q := ⟨h, fun p np => k p _ np (Ex.upd np) upd_same⟩
theorem g_tupS (k : t σ H fun xs H1 => NT xs H1 Q) : tTup t σ H Q := k
theorem g_lstS (k : t σ H fun xs H1 => NL xs H1 Q) : tLst t σ H Q := k
def NF (K : PySem.W.Frag) (f : Str) (x : V) (H : Hp) (Q : VK) : Prop := ∃ a C dx fs v, x = .ref a ∧ H a = some (.ins C dx fs) ∧ Cls K C ∧ NoAttr K C f ∧ fs.lookup f = some v ∧ Q v H
theorem g_fld {f : Str} (k : ta σ H fun x H1 => NF K f x H1 Q) : tFld K ta f σ H Q := k
theorem n_fldR {f : Str} {a C dx : Addr} {fs : List (Str × V)} (h : H a = some (.ins C dx fs)) (hc : Cls K C) (hn : NoAttr K C f) (hl : fs.lookup f = some v) (k : Q v H) : NF K f (.ref a) H Q := ⟨a, C, dx, fs, v, rfl, h, hc, hn, hl, k⟩
theorem g_call {sp : Sp} {dvs : List V} {E : XK} (k : t σ H fun vs H1 => sp (vs ++ dvs) H1 Q E) : tCall sp dvs E t σ H Q := k
theorem g_meth {C : Addr} {m : Str} {sp : Sp} {dvs : List V} {E : XK} (k : ta σ H fun x H1 => ∃ a dx fs, x = .ref a ∧ H1 a = some (.ins C dx fs) ∧ fs.lookup m = none ∧ t σ H1 fun vs H2 => sp (x :: (vs ++ dvs)) H2 Q E) : tMeth C m sp dvs E ta t σ H Q := k
theorem g_methR {C a dx : Addr} {m : Str} {fs : List (Str × V)} {Z : Prop} (h : H a = some (.ins C dx fs)) (hl : fs.lookup m = none) (k : Z) : ∃ a' dx fs, V.ref a = V.ref a' ∧ H a' = some (.ins C dx fs) ∧ fs.lookup m = none ∧ Z := ⟨a, dx, fs, rfl, h, hl, k⟩
theorem g_cb {r : List V → Hp → VK → Prop} (k : t σ H fun vs H1 => r vs H1 Q) : tCB r t σ H Q := k
theorem g_if (k : tt σ H fun c H1 => if c = true then ta σ H1 Q else tb σ H1 Q) : tIf tt ta tb σ H Q := k
theorem g_chain {r r' : R2} (k : ta σ H fun x H1 => tb σ H1 fun y H2 => r x y H2 fun z H3 => ∃ k, z = .bl k ∧ (if k = true then tc σ H3 fun w' H4 => r' y w' H4 Q else Q (.bl false) H3)) : tChain r r' ta tb tc σ H Q := k
theorem g_andV (k : ta σ H fun x H1 => ∃ c, x = .bl c ∧ if c = true then tb σ H1 Q else Q (.bl false) H1) : tAndV ta tb σ H Q := k
theorem g_orV (k : ta σ H fun x H1 => ∃ c, x = .bl c ∧ if c = true then Q (.bl true) H1 else tb σ H1 Q) : tOrV ta tb σ H Q := k
theorem g_notV (k : ta σ H fun x H1 => ∃ c, x = .bl c ∧ Q (.bl (!c)) H1) : tNotV ta σ H Q := k
/-! ### steps: tests -/
theorem g_test (k : te σ H fun x H1 => ∃ c, x = .bl c ∧ B c H1) : tTest te σ H B := k
theorem g_tB (k : te σ H fun x H1 => ∃ c, x = .bl c ∧ B c H1) : tB te σ H B := k
theorem g_bl {b : Bool} {Z : Bool → Prop} (k : Z b) : ∃ c, V.bl b = V.bl c ∧ Z c := ⟨b, rfl, k⟩
theorem g_and (k : tt σ H fun c H1 => if c = true then tt2 σ H1 B else B false H1) : tAnd tt tt2 σ H B := k
theorem g_or (k : tt σ H fun c H1 => if c = true then B true H1 else tt2 σ H1 B) : tOr tt tt2 σ H B := k
theorem g_not (k : tt σ H fun c H1 => B (!c) H1) : tNot tt σ H B := k
theorem g_ite {b : Bool} {A C : Prop} (h1 : b = true → A) (h2 : b = false → C) : if b = true then A else C := by
  cases b with
  | true => rw [if_pos rfl]; exact h1 rfl
  | false => rw [if_neg Bool.false_ne_true]; exact h2 rfl
theorem g_iteT {A C : Prop} (h : A) : if true = true then A else C := by rw [if_pos rfl]; exact h
theorem g_iteF {A C : Prop} (h : C) : if false = true then A else C := by rw [if_neg Bool.false_ne_true]; exact h
theorem g_iteP {p A C : Prop} [Decidable p] (hp : p) (h : A) : if decide p = true then A else C := by rw [decide_eq_true hp]; exact g_iteT h
theorem g_iteN {p A C : Prop} [Decidable p] (hp : ¬ p) (h : C) : if decide p = true then A else C := by rw [decide_eq_false hp]; exact g_iteF h
theorem g_iteNP {p A C : Prop} [Decidable p] (hp : p) (h : C) : if (!decide p) = true then A else C := by rw [decide_eq_true hp]; exact g_iteF h
theorem g_iteNN {p A C : Prop} [Decidable p] (hp : ¬ p) (h : A) : if (!decide p) = true then A else C := by rw [decide_eq_false hp]; exact g_iteT h
theorem g_iteD {p A C : Prop} [Decidable p] (h1 : p → A) (h2 : ¬ p → C) : if decide p = true then A else C := g_ite (fun h => h1 (of_decide_eq_true h)) (fun h => h2 (of_decide_eq_false h))
/-! ### steps: statements -/
theorem q_norm {t : TS} (h : σ = σ') (k : t D σ' H) : t D σ H := by rw [h]; exact k
theorem q_set (k : te σ H fun v H1 => tz D (σ.set i (some v)) H1) : tSeq (tAsg te (gName i)) tz D σ H := k
theorem q_par {j : Nat} (k : t σ H fun vs H1 => ∃ v w, vs = [v, w] ∧ tz D ((σ.set i (some v)).set j (some w)) H1) : tSeq (tPar i j t) tz D σ H := k
theorem g_pair {Z : V → V → Prop} (k : Z x y) : ∃ v w, [x, y] = [v, w] ∧ Z v w := ⟨x, y, rfl, k⟩
theorem q_drop (k : te σ H fun _ H1 => tz D σ H1) : tSeq (tDrop te) tz D σ H := k
theorem q_when (k : tt σ H fun b H1 => if b = true then tu { D with nx := tz D } σ H1 else tz D σ H1) : tSeq (tIfS tt tu tNext) tz D σ H := k
theorem q_if (k : tt σ H fun b H1 => if b = true then tu { D with nx := tz D } σ H1 else tw { D with nx := tz D } σ H1) : tSeq (tIfS tt tu tw) tz D σ H := k
theorem s_ret (k : te σ H D.rt) : tRet te D σ H := k
theorem s_if (k : tt σ H fun b H1 => if b = true then tu D σ H1 else tw D σ H1) : tIfS tt tu tw D σ H := k
theorem s_when (k : tt σ H fun b H1 => if b = true then tu D σ H1 else D.nx σ H1) : tIfS tt tu tNext D σ H := k
theorem s_set (k : te σ H fun v H1 => D.nx (σ.set i (some v)) H1) : tAsg te (gName i) D σ H := k
theorem s_drop (k : te σ H fun _ H1 => D.nx σ H1) : tDrop te D σ H := k
theorem s_par {j : Nat} (k : t σ H fun vs H1 => ∃ v w, vs = [v, w] ∧ D.nx ((σ.set i (some v)).set j (some w)) H1) : tPar i j t D σ H := k
end
end Rt
namespace Rt
open PySem PySem.Spec PyProof.Rows L2
/-! ### a def's object by its place; exceptions at the end -/
def fdA (K : PySem.W.Frag) (p : Str × Option Str) : FuncData := match K.lookup (He.fAd K p) with
  | some ⟨_, _, .func fd, _⟩ => fd
  | _ => PySem.W.fnOf "" "" { posonlyargs := [], args := [], vararg := none, kwonlyargs := [], kw_defaults := [], kwarg := none, defaults := [] } [] { kind := .function, names := [], isGenerator := false, isCoroutine := false } .none .none .none .none none .none .none
theorem fdA_eq {K : PySem.W.Frag} {p : Str × Option Str} {x q : Str} {params : Arguments} {body : List Stmt} {scope : Scope} {dvs : List V} {kws : List (Str × V)} {fd : FuncData} (F : FunD K x q params body scope dvs kws (He.fAd K p) fd) : fd = fdA K p := by
  obtain ⟨oc, od, dV, kV, doc, pm, an, cdv, ct, osl, e, lk, _⟩ := F.ex
  unfold fdA
  rw [lk]
theorem FnOk.cx {P : Program} {w : World} {K : PySem.W.Frag} {mg : Str → Option Value} {base : Heap} {CX CX' : CXT} {k : Nat} {f : Addr} {fd : FuncData} {ps : List Str} {sp : Sp}
    (h : ∀ o H s E u s', CX o H s E u s' → CX' o H s E u s') (F : FnOk P w K mg base CX k f fd ps sp) : FnOk P w K mg base CX' k f fd ps sp := by
  refine ⟨F.len, fun A outer s H args us vs Q E hr e0 hb hv hs => ?_⟩
  refine codeAny_mono (F.run A outer s H args us vs Q E hr e0 hb hv hs) fun r s' q => ?_
  cases r with
  | error e => exact h _ _ _ _ _ _ q
  | ok fl => cases fl <;> exact q
theorem end_cx {P : Program} (H : Hp) (s : Shared) (e : Value) (s' : Shared) (z : ∃ w, L2.CX P w [] H s (fun _ _ _ => False) e s') : False := by
  obtain ⟨_, _, _, _, _, _, _, _, _, _, _, _, _, q⟩ := z
  exact q
end Rt
namespace Rt
open PySem PySem.Spec PyProof.Rows L2
theorem pickV : ∀ {vs : List V} {us : List Value} (_ : Vals vs us) (i : Nat), Vals (vs[i]?).toList (us[i]?).toList
  | _, _, .nil, _ => .nil
  | _, _, .cons h _, 0 => .cons h .nil
  | _, _, .cons _ t, i + 1 => pickV t i
end Rt
namespace Rt
open PySem PySem.Spec PyProof.Rows L2
section
variable {K : PySem.W.Frag} {σ : L2.St} {H : Hp} {Q : VK} {ta tb te : TE} {v x y : V} {t tk : TA} {Z : Bool → Prop}
theorem g_call0 {sp : Sp} {E : XK} (k : t σ H fun vs H1 => sp vs H1 Q E) : tCall sp [] E t σ H Q := by
  have e : (fun vs H1 => sp (vs ++ []) H1 Q E) = fun vs H1 => sp vs H1 Q E := by
    funext vs H1
    rw [List.append_nil]
  show t σ H fun vs H1 => sp (vs ++ []) H1 Q E
  rw [e]
  exact k
theorem g_meth0 {C : Addr} {m : Str} {sp : Sp} {E : XK} (k : ta σ H fun x H1 => ∃ a dx fs, x = .ref a ∧ H1 a = some (.ins C dx fs) ∧ fs.lookup m = none ∧ t σ H1 fun vs H2 => sp (x :: vs) H2 Q E) : tMeth C m sp [] E ta t σ H Q := by
  have e : (fun (x : V) (H1 : Hp) => ∃ a dx fs, x = .ref a ∧ H1 a = some (.ins C dx fs) ∧ fs.lookup m = none ∧ t σ H1 fun vs H2 => sp (x :: (vs ++ [])) H2 Q E) = fun (x : V) (H1 : Hp) => ∃ a dx fs, x = .ref a ∧ H1 a = some (.ins C dx fs) ∧ fs.lookup m = none ∧ t σ H1 fun vs H2 => sp (x :: vs) H2 Q E := by
    funext x H1
    simp only [List.append_nil]
  show ta σ H fun (x : V) (H1 : Hp) => ∃ a dx fs, x = .ref a ∧ H1 a = some (.ins C dx fs) ∧ fs.lookup m = none ∧ t σ H1 fun vs H2 => sp (x :: (vs ++ [])) H2 Q E
  rw [e]
  exact k
/-- a new instance: its heap, by what is known of it -/
structure NewI (H : Hp) (C x dx : Addr) (H' : Hp) : Prop where
  nx : H x = none
  ndx : H dx = none
  ne : dx ≠ x
  ex : Ex H H'
  at_ : H' x = some (.ins C dx [])
def NM (C : Addr) (sp : Sp) (dvs : List V) (E : XK) (vs : List V) (H : Hp) (Q : VK) : Prop := ∀ x dx, H x = none → H dx = none → dx ≠ x → sp (.ref x :: (vs ++ dvs)) (upd (upd H dx (.own x)) x (.ins C dx [])) (fun v H2 => v = .non ∧ Q (.ref x) H2) E
theorem g_make {C : Addr} {sp : Sp} {dvs : List V} {E : XK} (k : t σ H fun vs H1 => NM C sp dvs E vs H1 Q) : tMake C sp dvs E t σ H Q := k
theorem n_make {C : Addr} {sp : Sp} {dvs vs : List V} {E : XK} (k : ∀ x dx H2, NewI H C x dx H2 → sp (.ref x :: (vs ++ dvs)) H2 (fun v H3 => v = .non ∧ Q (.ref x) H3) E) : NM C sp dvs E vs H Q :=
  fun x dx nx ndx ne => k x dx _ ⟨nx, ndx, ne, fun a u e => by rw [upd_ne (ne_of_none e nx), upd_ne (ne_of_none e ndx)]; exact e, upd_same⟩
theorem g_tru {b : Bool} (k : Z b) : ∃ c, TruV K (.bl b) H c ∧ Z c := ⟨b, rfl, k⟩
theorem g_truI {i : Int} (k : Z (i != 0)) : ∃ c, TruV K (.int i) H c ∧ Z c := ⟨_, rfl, k⟩
theorem g_truN (k : Z false) : ∃ c, TruV K .non H c ∧ Z c := ⟨_, rfl, k⟩
theorem g_trv {B : Bool → Hp → Prop} (k : ta σ H fun x H' => ∃ k, TruV K x H' k ∧ B k H') : tTrv K ta σ H B := k
theorem g_andT (k : ta σ H fun x H1 => ∃ k, TruV K x H1 k ∧ if k = true then tb σ H1 Q else Q x H1) : tAndT K ta tb σ H Q := k
theorem g_orT (k : ta σ H fun x H1 => ∃ k, TruV K x H1 k ∧ if k = true then Q x H1 else tb σ H1 Q) : tOrT K ta tb σ H Q := k
theorem g_notT (k : ta σ H fun x H1 => ∃ k, TruV K x H1 k ∧ Q (.bl (!k)) H1) : tNotT K ta σ H Q := k
theorem g_isi {c : V} {w u : Value} {b : Bool} (h1 : TyX K H x w) (h2 : ClsV c u) (h3 : PySem.W.kitOne K w u = some b) (k : Q (.bl b) H) : rIsiU K [x, c] H Q := .inl ⟨x, c, w, u, b, rfl, h2, h1, h3, k⟩
theorem g_isiII {i : Int} (k : Q (.bl true) H) : rIsiU K [.int i, .ty "int"] H Q := g_isi (.base (.int i)) (.ty _) (kit_ty (by decide +kernel)) k
theorem g_isiIB {i : Int} (k : Q (.bl false) H) : rIsiU K [.int i, .ty "bool"] H Q := g_isi (.base (.int i)) (.ty _) (kit_ty (by decide +kernel)) k
theorem g_isiTT {a : Addr} {xs : List V} (h : H a = some (.tup xs)) (k : Q (.bl true) H) : rIsiU K [.ref a, .ty "tuple"] H Q := g_isi (.base (.tup h)) (.ty _) (kit_ty (by decide +kernel)) k
theorem g_abs {i : Int} (k : Q (.int (i.natAbs : Int)) H) : rAbsV [.int i] H Q := ⟨i, rfl, by
  have e : (if i < 0 then -i else i) = (i.natAbs : Int) := by split <;> omega
  rw [e]
  exact k⟩
theorem g_lenL {p : Addr} {xs : List V} (h : SqL K H p xs) (k : Q (.int xs.length) H) : rLenU K [.ref p] H Q := .inl ⟨p, xs, rfl, .inl h, k⟩
theorem g_lenT {p : Addr} {xs : List V} (h : SqT K H p xs) (k : Q (.int xs.length) H) : rLenU K [.ref p] H Q := .inl ⟨p, xs, rfl, .inr h, k⟩
theorem g_listL {p : Addr} {xs : List V} (h : SqL K H p xs) (k : ∀ l H', H l = none → Ex H H' → H' l = some (.lst xs) → Q (.ref l) H') : rListOf K [.ref p] H Q := ⟨p, xs, rfl, .inl h, fun l n => k l _ n (Ex.upd n) upd_same⟩
theorem g_listT {p : Addr} {xs : List V} (h : SqT K H p xs) (k : ∀ l H', H l = none → Ex H H' → H' l = some (.lst xs) → Q (.ref l) H') : rListOf K [.ref p] H Q := ⟨p, xs, rfl, .inr h, fun l n => k l _ n (Ex.upd n) upd_same⟩
theorem g_tupL {p : Addr} {xs : List V} (h : SqL K H p xs) (k : ∀ l H', H l = none → Ex H H' → H' l = some (.tup xs) → Q (.ref l) H') : rTupOf K [.ref p] H Q := ⟨p, xs, rfl, .inl ⟨h, fun l n => k l _ n (Ex.upd n) upd_same⟩⟩
theorem g_sl {to th : TO} {r : V → Option Int → Option Int → Hp → VK → Prop} (k : te σ H fun x H1 => to σ H1 fun l H2 => th σ H2 fun u H3 => r x l u H3 Q) : tSl r te to th σ H Q := k
theorem g_noPart {R : Option Int → Hp → Prop} (k : R none H) : tNoPart σ H R := k
theorem g_part {R : Option Int → Hp → Prop} (k : te σ H fun x H1 => ∃ i, x = .int i ∧ R (some i) H1) : tPart te σ H R := k
theorem g_int {i : Int} {R : Int → Prop} (k : R i) : ∃ j, V.int i = .int j ∧ R j := ⟨i, rfl, k⟩
theorem g_slL {p : Addr} {xs : List V} {lo hi : Option Int} (h : SqL K H p xs) (k : ∀ l H', H l = none → Ex H H' → H' l = some (.lst (cutV xs lo hi)) → Q (.ref l) H') : rSlU K (.ref p) lo hi H Q := .inl ⟨p, xs, rfl, h, fun l n => k l _ n (Ex.upd n) upd_same⟩
end
/-- while: a word Pv and a measure -/
theorem w_by {c : TT} {tb : TS} {D : Ends} {σ : L2.St} {H : Hp} (W : Nat → L2.St → Hp → Prop) (m : Nat) (h0 : W m σ H)
    (hs : ∀ m σ H, W m σ H → c σ H fun b H1 => if b = true then ∃ N : L2.St → Hp → Prop, (∀ σ' H', N σ' H' → ∃ m', m' < m ∧ W m' σ' H') ∧ tb { D with nx := N, ct := N, bk := D.nx } σ H1 else D.nx σ H1) : tWhile c tb D σ H := ⟨W, ⟨m, h0⟩, hs⟩
theorem w_turn {W : Nat → L2.St → Hp → Prop} {m : Nat} {tb : TS} {D : Ends} {σ : L2.St} {H : Hp} (k : tb { D with nx := fun σ' H' => ∃ m', m' < m ∧ W m' σ' H', ct := fun σ' H' => ∃ m', m' < m ∧ W m' σ' H', bk := D.nx } σ H) :
    ∃ N : L2.St → Hp → Prop, (∀ σ' H', N σ' H' → ∃ m', m' < m ∧ W m' σ' H') ∧ tb { D with nx := N, ct := N, bk := D.nx } σ H := ⟨_, fun _ _ z => z, k⟩
end Rt
namespace Rt
open PySem PySem.Spec PyProof.Rows L2
/-! ### loops over what is written out: unrolled -/
section
variable {K : PySem.W.Frag} {a : Addr} {g : TG} {tb tz : TS} {D : Ends} {σ : L2.St} {H : Hp} {tl : TE} {wi : TI} {R : It → Hp → Prop}
def unT (K : PySem.W.Frag) (a : Addr) (XS : List V) (g : TG) (tb : TS) (D : Ends) : List V → L2.St → Hp → Prop
  | [], σ, H => SqT K H a XS ∧ D.nx σ H
  | x :: r, σ, H => SqT K H a XS ∧ g x σ H fun σ2 H2 => tb { D with nx := unT K a XS g tb D r, ct := unT K a XS g tb D r, bk := D.nx } σ2 H2
def unL (K : PySem.W.Frag) (a : Addr) (XS : List V) (g : TG) (tb : TS) (D : Ends) : List V → L2.St → Hp → Prop
  | [], σ, H => SqL K H a XS ∧ D.nx σ H
  | x :: r, σ, H => SqL K H a XS ∧ g x σ H fun σ2 H2 => tb { D with nx := unL K a XS g tb D r, ct := unL K a XS g tb D r, bk := D.nx } σ2 H2
theorem drop_some {α : Type} {xs : List α} {i : Nat} {x : α} (h : xs[i]? = some x) : xs.drop i = x :: xs.drop (i + 1) := by
  obtain ⟨hi, e⟩ := List.getElem?_eq_some_iff.mp h
  rw [List.drop_eq_getElem_cons hi, e]
theorem unT_seq {XS : List V} : ∀ (r : List V) σ H, unT K a XS g tb D r σ H → SqT K H a XS
  | [], _, _, h => h.1
  | _ :: _, _, _, h => h.1
theorem unL_seq {XS : List V} : ∀ (r : List V) σ H, unL K a XS g tb D r σ H → SqL K H a XS
  | [], _, _, h => h.1
  | _ :: _, _, _, h => h.1
/-- what a for asks, its iterator told by J; D.nx stands behind it -/
def LO (g : TG) (tb : TS) (D : Ends) (σ : L2.St) (J : It) (H : Hp) : Prop := ∃ W : Nat → Nat → L2.St → Hp → Prop, (∃ m, W 0 m σ H) ∧ ∀ i m σ H, W i m σ H →
    (J.stop i H ∧ D.nx σ H) ∨ (J.go i H ∧ ∃ N : L2.St → Hp → Prop, (∀ σ' H', N σ' H' → ∃ m', m' < m ∧ W (i + 1) m' σ' H') ∧ ∀ x H', J.yld i H x H' → g x σ H' fun σ2 H2 => tb { D with nx := N, ct := N, bk := D.nx } σ2 H2)
theorem q_for (k : wi σ H fun J H1 => LO g tb { D with nx := tz D } σ J H1) : tSeq (tFor wi g tb) tz D σ H := k
theorem s_for (k : wi σ H fun J H1 => LO g tb D σ J H1) : tFor wi g tb D σ H := k
theorem g_iT (k : tl σ H fun x H1 => ∃ a, x = .ref a ∧ (∃ xs, SqT K H1 a xs) ∧ R (Itt K a) H1) : iSeq K tl σ H R := .inr k
theorem g_iL (k : tl σ H fun x H1 => ∃ a, x = .ref a ∧ (∃ xs, SqL K H1 a xs) ∧ R (Itl K a) H1) : iSeq K tl σ H R := .inl k
theorem n_unT {xs : List V} (h : unT K a xs g tb D xs σ H) : ∃ a', V.ref a = .ref a' ∧ (∃ xs, SqT K H a' xs) ∧ LO g tb D σ (Itt K a') H := by
  refine ⟨a, rfl, ⟨xs, unT_seq _ _ _ h⟩, for_tup (K := K) (a := a) (xs := xs) (fun i σ H => unT K a xs g tb D (xs.drop i) σ H) h (fun i σ H _ q => unT_seq _ _ _ q) (fun i x σ H e q => ?_) (fun σ H q => ?_)⟩
  · rw [drop_some e] at q
    exact q.2
  · rw [List.drop_length] at q
    exact q.2
theorem n_unL {xs : List V} (h : unL K a xs g tb D xs σ H) : ∃ a', V.ref a = .ref a' ∧ (∃ xs, SqL K H a' xs) ∧ LO g tb D σ (Itl K a') H := by
  refine ⟨a, rfl, ⟨xs, unL_seq _ _ _ h⟩, for_list (K := K) (a := a) (xs := xs) (fun i σ H => unL K a xs g tb D (xs.drop i) σ H) h (fun i σ H _ q => unL_seq _ _ _ q) (fun i x σ H e q => ?_) (fun σ H q => ?_)⟩
  · rw [drop_some e] at q
    exact q.2
  · rw [List.drop_length] at q
    exact q.2
/-- by a word over the turns -/
theorem n_forT {xs : List V} (Pv : Nat → L2.St → Hp → Prop) (h0 : Pv 0 σ H) (hl : ∀ i σ H, i ≤ xs.length → Pv i σ H → SqT K H a xs)
    (hs : ∀ i x σ H, xs[i]? = some x → Pv i σ H → g x σ H fun σ2 H2 => tb { D with nx := Pv (i + 1), ct := Pv (i + 1), bk := D.nx } σ2 H2) (hd : ∀ σ H, Pv xs.length σ H → D.nx σ H) :
    ∃ a', V.ref a = .ref a' ∧ (∃ xs, SqT K H a' xs) ∧ LO g tb D σ (Itt K a') H :=
  ⟨a, rfl, ⟨xs, hl 0 _ _ (Nat.zero_le _) h0⟩, for_tup (K := K) Pv h0 hl hs hd⟩
theorem n_forL {xs : List V} (Pv : Nat → L2.St → Hp → Prop) (h0 : Pv 0 σ H) (hl : ∀ i σ H, i ≤ xs.length → Pv i σ H → SqL K H a xs)
    (hs : ∀ i x σ H, xs[i]? = some x → Pv i σ H → g x σ H fun σ2 H2 => tb { D with nx := Pv (i + 1), ct := Pv (i + 1), bk := D.nx } σ2 H2) (hd : ∀ σ H, Pv xs.length σ H → D.nx σ H) :
    ∃ a', V.ref a = .ref a' ∧ (∃ xs, SqL K H a' xs) ∧ LO g tb D σ (Itl K a') H :=
  ⟨a, rfl, ⟨xs, hl 0 _ _ (Nat.zero_le _) h0⟩, for_list (K := K) Pv h0 hl hs hd⟩
theorem g_iR1 {t : TA} (k : t σ H fun vs H1 => ∃ j : Int, vs = [.int j] ∧ -(2 ^ 62) ≤ j ∧ j < 2 ^ 62 ∧ R (Itr 0 j.toNat) H1) : iRng1 t σ H R := k
theorem g_iR2 {t : TA} (k : t σ H fun vs H1 => ∃ i j : Int, vs = [.int i, .int j] ∧ (-(2 ^ 62) ≤ i ∧ i < 2 ^ 62 ∧ -(2 ^ 62) ≤ j ∧ j < 2 ^ 62) ∧ R (Itr i (j - i).toNat) H1) : iRng2 t σ H R := k
theorem n_forR1 {j : Int} (hj : -(2 ^ 62) ≤ j ∧ j < 2 ^ 62) (Pv : Nat → L2.St → Hp → Prop) (h0 : Pv 0 σ H) (hs : ∀ i σ H, i < j.toNat → Pv i σ H → g (.int (0 + i)) σ H fun σ2 H2 => tb { D with nx := Pv (i + 1), ct := Pv (i + 1), bk := D.nx } σ2 H2)
    (hd : ∀ σ H, Pv j.toNat σ H → D.nx σ H) : ∃ j' : Int, [V.int j] = [.int j'] ∧ -(2 ^ 62) ≤ j' ∧ j' < 2 ^ 62 ∧ LO g tb D σ (Itr 0 j'.toNat) H :=
  ⟨j, rfl, hj.1, hj.2, for_range Pv h0 hs hd⟩
theorem n_forR2 {lo hi : Int} (hj : -(2 ^ 62) ≤ lo ∧ lo < 2 ^ 62 ∧ -(2 ^ 62) ≤ hi ∧ hi < 2 ^ 62) (Pv : Nat → L2.St → Hp → Prop) (h0 : Pv 0 σ H) (hs : ∀ i σ H, i < (hi - lo).toNat → Pv i σ H → g (.int (lo + i)) σ H fun σ2 H2 => tb { D with nx := Pv (i + 1), ct := Pv (i + 1), bk := D.nx } σ2 H2)
    (hd : ∀ σ H, Pv (hi - lo).toNat σ H → D.nx σ H) : ∃ i j : Int, [V.int lo, .int hi] = [.int i, .int j] ∧ (-(2 ^ 62) ≤ i ∧ i < 2 ^ 62 ∧ -(2 ^ 62) ≤ j ∧ j < 2 ^ 62) ∧ LO g tb D σ (Itr i (j - i).toNat) H :=
  ⟨lo, hi, rfl, hj, for_range Pv h0 hs hd⟩
theorem g_name {i : Nat} {v : V} {R : L2.St → Hp → Prop} (k : R (σ.set i (some v)) H) : gName i v σ H R := k
theorem q_fld {K : PySem.W.Frag} {ta tv : TE} {f : Str} (k : tv σ H fun y H1 => ta σ H1 fun x H2 => ∃ a C dx fs, x = .ref a ∧ H2 a = some (.ins C dx fs) ∧ Cls K C ∧ NoAttr K C f ∧ fs.length < 1000 ∧ tz D σ (upd H2 a (.ins C dx (putF f y fs)))) : tSeq (sFld K ta tv f) tz D σ H := k
theorem s_fld {K : PySem.W.Frag} {ta tv : TE} {f : Str} (k : tv σ H fun y H1 => ta σ H1 fun x H2 => ∃ a C dx fs, x = .ref a ∧ H2 a = some (.ins C dx fs) ∧ Cls K C ∧ NoAttr K C f ∧ fs.length < 1000 ∧ D.nx σ (upd H2 a (.ins C dx (putF f y fs)))) : sFld K ta tv f D σ H := k
theorem n_fld {C dx : Addr} {f : Str} {y : V} {fs fs' : List (Str × V)} {Z : Hp → Prop} (h : H a = some (.ins C dx fs)) (hc : Cls K C) (hn : NoAttr K C f) (hl : fs.length < 1000) (hf : putF f y fs = fs') (k : ∀ H', Xb a H H' → H' a = some (.ins C dx fs') → Z H') :
    ∃ a' C dx fs, V.ref a = .ref a' ∧ H a' = some (.ins C dx fs) ∧ Cls K C ∧ NoAttr K C f ∧ fs.length < 1000 ∧ Z (upd H a' (.ins C dx (putF f y fs))) := by
  subst hf
  exact ⟨a, C, dx, fs, rfl, h, hc, hn, hl, k _ Xb.upd upd_same⟩
end
/-! ### shares as rational numbers -/
theorem part_top {a b : Int} (hb : b ≠ 0) : a.fdiv (if b < 0 then 0 - ((Int.gcd a b : Nat) : Int) else ((Int.gcd a b : Nat) : Int)) = (Rat.divInt a b).num := by
  have hg : (0 : Int) < ((Int.gcd a b : Nat) : Int) := by
    have := Int.gcd_pos_of_ne_zero_right a hb
    omega
  obtain ⟨t, ht⟩ : ((Int.gcd a b : Nat) : Int) ∣ a := Int.gcd_dvd_left a b
  rw [Rat.num_divInt, Int.gcd_comm b a]
  generalize ((Int.gcd a b : Nat) : Int) = g at *
  subst ht
  by_cases h : b < 0
  · rw [if_pos h, Int.sign_eq_neg_one_of_neg h]
    have e1 : (g * t).fdiv (0 - g) = -t := by
      have : g * t = (0 - g) * (-t) := by
        rw [Int.zero_sub, Int.neg_mul_neg]
      rw [this, Int.mul_fdiv_cancel_left _ (by omega)]
    have e2 : (-1 * (g * t)) / g = -t := by
      have : (-1 * (g * t)) = g * (-t) := by
        rw [Int.mul_neg, Int.neg_mul, Int.one_mul]
      rw [this, Int.mul_ediv_cancel_left _ (by omega)]
    rw [e1, e2]
  · rw [if_neg h, Int.sign_eq_one_of_pos (by omega), Int.one_mul, Int.mul_fdiv_cancel_left _ (by omega), Int.mul_ediv_cancel_left _ (by omega)]
theorem part_bot {a b : Int} (hb : b ≠ 0) : b.fdiv (if b < 0 then 0 - ((Int.gcd a b : Nat) : Int) else ((Int.gcd a b : Nat) : Int)) = ((Rat.divInt a b).den : Int) := by
  have hg : (0 : Int) < ((Int.gcd a b : Nat) : Int) := by
    have := Int.gcd_pos_of_ne_zero_right a hb
    omega
  obtain ⟨t, ht⟩ : ((Int.gcd a b : Nat) : Int) ∣ b := Int.gcd_dvd_right a b
  rw [Rat.den_divInt, if_neg hb, Int.gcd_comm b a, Int.natCast_ediv]
  generalize ((Int.gcd a b : Nat) : Int) = g at *
  subst ht
  by_cases h : g * t < 0
  · rw [if_pos h]
    have e1 : (g * t).fdiv (0 - g) = -t := by
      have : g * t = (0 - g) * (-t) := by
        rw [Int.zero_sub, Int.neg_mul_neg]
      rw [this, Int.mul_fdiv_cancel_left _ (by omega)]
    have e2 : (((g * t).natAbs : Nat) : Int) / g = -t := by
      have : (((g * t).natAbs : Nat) : Int) = g * (-t) := by
        rw [Int.mul_neg]
        omega
      rw [this, Int.mul_ediv_cancel_left _ (by omega)]
    rw [e1, e2]
  · rw [if_neg h, Int.mul_fdiv_cancel_left _ (by omega)]
    have : (((g * t).natAbs : Nat) : Int) = g * t := by omega
    rw [this, Int.mul_ediv_cancel_left _ (by omega)]
/-- how long top and bottom are at most, in bits -/
def RSz (n : Nat) (q : Rat) : Prop := q.num.natAbs < 2 ^ n ∧ q.den < 2 ^ n
theorem rsz_mono {n m : Nat} {q : Rat} (h : RSz n q) (l : n ≤ m) : RSz m q :=
  ⟨Nat.lt_of_lt_of_le h.1 (Nat.pow_le_pow_right (by decide) l), Nat.lt_of_lt_of_le h.2 (Nat.pow_le_pow_right (by decide) l)⟩
theorem rsz_divInt {n : Nat} {a b : Int} (ha : a.natAbs < 2 ^ n) (hb : b.natAbs < 2 ^ n) (h0 : b ≠ 0) : RSz n (Rat.divInt a b) := by
  constructor
  · rw [← part_top h0]
    refine Nat.lt_of_le_of_lt ?_ ha
    rw [part_top h0, Rat.num_divInt]
    have : (b.sign * a).natAbs ≤ a.natAbs := by
      rw [Int.natAbs_mul]
      have : b.sign.natAbs ≤ 1 := by
        rcases Int.lt_trichotomy b 0 with h | h | h
        · rw [Int.sign_eq_neg_one_of_neg h]; decide
        · subst h; decide
        · rw [Int.sign_eq_one_of_pos h]; decide
      calc b.sign.natAbs * a.natAbs ≤ 1 * a.natAbs := Nat.mul_le_mul_right _ this
        _ = a.natAbs := Nat.one_mul _
    refine Nat.le_trans (Int.natAbs_ediv_le_natAbs _ _) this
  · rw [Rat.den_divInt, if_neg h0]
    exact Nat.lt_of_le_of_lt (Nat.div_le_self _ _) hb
theorem lt_add {a b : Int} {n : Nat} (ha : a.natAbs < 2 ^ n) (hb : b.natAbs < 2 ^ n) : (a + b).natAbs < 2 ^ (n + 1) := by
  rw [Nat.pow_succ]
  omega
theorem den_pos (q : Rat) : (0 : Int) < (q.den : Int) := by
  have := q.den_pos
  omega
theorem den_ne (q : Rat) : (q.den : Int) ≠ 0 := by
  have := den_pos q
  omega
theorem gcd_lt {a b : Int} {n : Nat} (hb : b.natAbs < 2 ^ n) (h0 : b ≠ 0) : ((Int.gcd a b : Nat) : Int).natAbs < 2 ^ n := by
  refine Nat.lt_of_le_of_lt ?_ hb
  rw [Int.natAbs_natCast]
  exact Nat.le_of_dvd (Int.natAbs_pos.mpr h0) (Nat.gcd_dvd_right _ _)
theorem divZ {i j : Int} {b : Nat} (h : j ≠ 0) (hb : j.natAbs < 2 ^ b) (h0 : 0 < b) (h9 : b ≤ 9000) : CDivZ i j := ⟨h, Nat.lt_of_lt_of_le (PySem.Flt.log2_lt_of h0 hb) h9⟩
theorem divInt_one (a : Int) : Rat.divInt a 1 = (a : Rat) := by
  rw [Rat.divInt_eq_div]
  grind
theorem mulW {a b : Int} {n m : Nat} (ha : a.natAbs < 2 ^ n) (hb : b.natAbs < 2 ^ m) (h : n + m ≤ 900000) : CMulW a b :=
  wide_mul (a := n + 1) (b := m + 1) (Nat.lt_of_lt_of_le ha (Nat.pow_le_pow_right (by decide) (Nat.le_succ _))) (Nat.lt_of_lt_of_le hb (Nat.pow_le_pow_right (by decide) (Nat.le_succ _))) (Nat.succ_pos _) (Nat.succ_pos _) (by omega)
theorem dsz {n : Nat} {q : Rat} (h : RSz n q) : ((q.den : Nat) : Int).natAbs < 2 ^ n := by
  rw [Int.natAbs_natCast]
  exact h.2
theorem pow_le {x n m : Nat} (h : x < 2 ^ n) (l : n ≤ m) : x < 2 ^ m := Nat.lt_of_lt_of_le h (Nat.pow_le_pow_right (by decide) l)
theorem add_eq (q r : Rat) : Rat.divInt (q.num * (r.den : Int) + r.num * (q.den : Int)) ((q.den : Int) * (r.den : Int)) = q + r := by
  rw [← Rat.divInt_add_divInt _ _ (den_ne q) (den_ne r), Rat.num_divInt_den, Rat.num_divInt_den]
theorem rsz_add {n m : Nat} {q r : Rat} (hq : RSz n q) (hr : RSz m r) : RSz (n + m + 1) (q + r) := by
  rw [← add_eq]
  refine rsz_divInt ?_ ?_ (Int.mul_ne_zero (den_ne q) (den_ne r))
  · exact lt_add (wide_lt hq.1 (dsz hr)) (by rw [Nat.add_comm n m]; exact wide_lt hr.1 (dsz hq))
  · exact pow_le (wide_lt (dsz hq) (dsz hr)) (by omega)
theorem mulI_eq (q : Rat) (j : Int) : Rat.divInt (q.num * j) (q.den : Int) = q * (j : Rat) := by
  have h := Rat.divInt_mul_divInt q.num j (d₁ := (q.den : Int)) (d₂ := 1)
  rw [Rat.num_divInt_den, divInt_one, Int.mul_one] at h
  exact h.symm
theorem rsz_mulI {n m : Nat} {q : Rat} {j : Int} (hq : RSz n q) (hj : j.natAbs < 2 ^ m) : RSz (n + m) (q * (j : Rat)) := by
  rw [← mulI_eq]
  exact rsz_divInt (wide_lt hq.1 hj) (pow_le (dsz hq) (by omega)) (den_ne q)
theorem divI_eq (q : Rat) {j : Int} (hj : j ≠ 0) : Rat.divInt q.num ((q.den : Int) * j) = q / (j : Rat) := by
  have h := Rat.divInt_mul_divInt q.num 1 (d₁ := (q.den : Int)) (d₂ := j)
  rw [Rat.num_divInt_den, Int.mul_one, Rat.divInt_eq_div 1 j] at h
  rw [← h]
  grind
theorem rsz_divI {n m : Nat} {q : Rat} {j : Int} (hq : RSz n q) (hj : j.natAbs < 2 ^ m) (h0 : j ≠ 0) : RSz (n + m) (q / (j : Rat)) := by
  rw [← divI_eq q h0]
  exact rsz_divInt (pow_le hq.1 (by omega)) (wide_lt (dsz hq) hj) (Int.mul_ne_zero (den_ne q) h0)
theorem g_join {te : TE} {σ : L2.St} {H : Hp} {Q : VK} (J : V → Hp → Prop) (h : ∀ Q : VK, (∀ v H', J v H' → Q v H') → te σ H Q) (k : ∀ v H', J v H' → Q v H') : te σ H Q := h Q k
theorem q_join {tu tz : TS} {D : Ends} {σ : L2.St} {H : Hp} (J : L2.St → Hp → Prop) (h : ∀ nx : L2.St → Hp → Prop, (∀ σ' H', J σ' H' → nx σ' H') → tu { D with nx := nx } σ H) (k : ∀ σ' H', J σ' H' → tz D σ' H') : tSeq tu tz D σ H := h _ k
theorem s_join {tu : TS} {D : Ends} {σ : L2.St} {H : Hp} (J : L2.St → Hp → Prop) (h : ∀ nx : L2.St → Hp → Prop, (∀ σ' H', J σ' H' → nx σ' H') → tu { D with nx := nx } σ H) (k : ∀ σ' H', J σ' H' → D.nx σ' H') : tu D σ H := h _ k
/-! ### dicts -/
section
variable {K : PySem.W.Frag} {σ : L2.St} {H : Hp} {Q : VK} {ta te tk tv to ti : TE} {v x y : V} {D : Ends} {tz : TS} {g : TG} {R : L2.St → Hp → Prop} {a p : Addr}
theorem q_asg (k : te σ H fun x H1 => g x σ H1 (tz D)) : tSeq (tAsg te g) tz D σ H := k
theorem s_asg (k : te σ H fun x H1 => g x σ H1 D.nx) : tAsg te g D σ H := k
def NSet (t : V → V → V → Hp → (Hp → Prop) → Prop) (o i v : V) (H : Hp) (σ : L2.St) (R : L2.St → Hp → Prop) : Prop := t o i v H fun H3 => R σ H3
theorem g_gsub {t : V → V → V → Hp → (Hp → Prop) → Prop} (k : to σ H fun o H1 => ti σ H1 fun i H2 => NSet t o i v H2 σ R) : gSub to ti t v σ H R := k
theorem n_setDS {kvs kvs' : List (Key × V)} {z : Str} (h : H a = some (.dK kvs)) (hp : putK kvs (.inr z) v = kvs') (hl : kvs.length < sizeLine) (k : ∀ H', Xb a H H' → H' a = some (.dK kvs') → R σ H') : NSet rSetU (.ref a) (.str z) v H σ R := by
  subst hp
  exact .inr ⟨a, _, rfl, DPut.k (k := Sum.inr z) h hl, k _ Xb.upd upd_same⟩
theorem n_setL {xs : List V} {j : Int} {i : Nat} (h : H a = some (.lst xs)) (hi : ixN xs.length j = some i) (k : ∀ H', Xb a H H' → H' a = some (.lst (xs.set i v)) → R σ H') : NSet rSetU (.ref a) (.int j) v H σ R :=
  .inl ⟨a, xs, j, i, rfl, rfl, h, hi, k _ Xb.upd upd_same⟩
/-- a display's end -/
def NP (p : Addr) (ps : List (V × V)) (H : Hp) (Q : VK) : Prop := H p = some (.dK []) ∧ ∃ kvs : List (Key × V), ps = kvs.map (fun kv => (kV kv.1, kv.2)) ∧ kvs.length ≤ 15 ∧ Q (.ref p) (upd H p (.dK (mergeK [] kvs)))
theorem g_disp {trs : List (TE × TE)} (k : ∀ p H1, H p = none → Ex H H1 → H1 p = some (.dK []) → tPairs trs σ H1 fun ps H2 => NP p ps H2 Q) : tDisp trs σ H Q := fun p np => k p _ np (Ex.upd np) upd_same
theorem g_pairs {r : List (TE × TE)} {S : List (V × V) → Hp → Prop} (k : tk σ H fun x H1 => tv σ H1 fun y H2 => tPairs r σ H2 fun ps H3 => S ((x, y) :: ps) H3) : tPairs ((tk, tv) :: r) σ H S := k
theorem g_pairs0 {S : List (V × V) → Hp → Prop} (k : S [] H) : tPairs [] σ H S := k
theorem valV_not {κ : Type} [DecidableEq κ] {k : κ} : ∀ {kvs : List (κ × V)}, k ∉ kvs.map (·.1) → valV kvs k = none
  | [], _ => rfl
  | p :: r, h => by
    rw [valV_neg (fun e => h (by rw [← e]; exact List.mem_cons_self))]
    exact valV_not fun z => h (List.mem_cons_of_mem _ z)
theorem merge_nodup : ∀ (kvs acc : List (Key × V)), ((acc ++ kvs).map (·.1)).Nodup → mergeK acc kvs = acc ++ kvs
  | [], acc, _ => (List.append_nil acc).symm
  | (k, v) :: r, acc, h => by
    have e : acc ++ (k, v) :: r = (acc ++ [(k, v)]) ++ r := by simp
    have hk : k ∉ acc.map (·.1) := by
      intro z
      rw [List.map_append, List.nodup_append] at h
      exact h.2.2 k z k List.mem_cons_self rfl
    show mergeK (putK acc k v) r = _
    rw [putK_new v (valV_not hk), e]
    exact merge_nodup r _ (by rw [← e]; exact h)
theorem n_disp {ps : List (V × V)} {kvs : List (Key × V)} (h : H p = some (.dK [])) (hk : ps = kvs.map (fun kv => (kV kv.1, kv.2))) (hl : kvs.length ≤ 15) (hn : (kvs.map (·.1)).Nodup) (k : ∀ H', Xb p H H' → H' p = some (.dK kvs) → Q (.ref p) H') : NP p ps H Q := by
  refine ⟨h, kvs, hk, hl, ?_⟩
  rw [merge_nodup kvs [] hn]
  exact k _ Xb.upd upd_same
end
/-! ### data -/
theorem dp_ints {K : PySem.W.Frag} {H : Hp} : ∀ cs : List Int, DpAll K H (cs.map V.int) (cs.map PyData.int)
  | [] => .nil
  | _ :: r => .cons (.int _) (dp_ints r)
theorem sh_ints (cs : List Int) : SeqAt.shaped (.list (cs.map PyData.int)) = true := PySem.W.shaped_ints cs
theorem eqv_nil (cs : List Int) : PyData.eqv (.list (cs.map PyData.int)) (.list []) = cs.isEmpty := by
  cases cs <;> simp [PyData.eqv, PyData.eqvAll]
theorem at_nat {xs : List V} {j : Nat} {x : V} (h : xs[j]? = some x) : atI xs ((j : Nat) : Int) = some x := atI_nat h
theorem kit_self {K : PySem.W.Frag} (C : Addr) : PySem.W.kitOne K (.ref C) (.ref C) = some true := by
  unfold PySem.W.kitOne
  rw [if_pos (beq_self_eq_true _)]
/-- a fraction in lowest terms, as a pair -/
abbrev PrAt (H : Hp) (p : Addr) (q : Rat) : Prop := H p = some (.tup [.int q.num, .int q.den])
theorem scale_eq (q : Rat) (a b : Int) : Rat.divInt (a * q.num) (b * (q.den : Int)) = (a : Rat) / (b : Rat) * q := by
  have h := Rat.divInt_mul_divInt a q.num (d₁ := b) (d₂ := (q.den : Int))
  rw [Rat.num_divInt_den, Rat.divInt_eq_div a b] at h
  exact h.symm
section
variable {K : PySem.W.Frag} {σ : L2.St} {H : Hp} {g : TG} {gs : TGs} {v : V} {r xs : List V} {R : L2.St → Hp → Prop} {p : Addr} {n : Nat}
theorem n_gtup (h : SqT K H p xs) (hl : xs.length = n) (k : gs xs σ H R) : gTup K n gs (.ref p) σ H R := ⟨p, xs, rfl, h, hl, k⟩
theorem g_gcons (k : g v σ H fun σ' H' => gs r σ' H' R) : gCons g gs (v :: r) σ H R := ⟨v, r, rfl, k⟩
theorem g_gnil (k : R σ H) : gNil [] σ H R := ⟨rfl, k⟩
end
end Rt

/-! M0: data, who owns what. -/
namespace Mi
open PySem PySem.Spec PyProof.Rows L2 Rt
/-- a value through and through -/
inductive D where
  | non | bl (b : Bool) | int (i : Int) | str (x : Str) | ty (n : String) | obj (x : Str)
  | tup (xs : List D) | lst (xs : List D) | dk (kvs : List (Key × D)) | dt (kvs : List (List Key × D)) | ins (c : Str) (fs : List (Str × D)) | scr (xs : List Int)
inductive Kd where
  | tup | lst | scr | dk (ks : List Key) | dt (ks : List (List Key)) | ins (C : Addr) (ns : List Str)
def oview : HO → Option (Kd × List V)
  | .tup xs => some (.tup, xs)
  | .lst xs => some (.lst, xs)
  | .dK kvs => some (.dk (kvs.map (·.1)), kvs.map (·.2))
  | .dT kvs => some (.dt (kvs.map (·.1)), kvs.map (·.2))
  | .ins C _ fs => some (.ins C (fs.map (·.1)), fs.map (·.2))
  | .frz _ (.lst xs) => some (.scr, xs)
  | _ => none
def dview (K : PySem.W.Frag) : D → Option (Kd × List D)
  | .tup xs => some (.tup, xs)
  | .lst xs => some (.lst, xs)
  | .dk kvs => some (.dk (kvs.map (·.1)), kvs.map (·.2))
  | .dt kvs => some (.dt (kvs.map (·.1)), kvs.map (·.2))
  | .ins c fs => some (.ins (He.ga K c) (fs.map (·.1)), fs.map (·.2))
  | .scr xs => some (.scr, xs.map .int)
  | _ => none
/-- what needs no heap -/
inductive Leaf (K : PySem.W.Frag) : V → D → Prop
  | non : Leaf K .non .non
  | bl (b : Bool) : Leaf K (.bl b) (.bl b)
  | int (i : Int) : Leaf K (.int i) (.int i)
  | str (x : Str) : Leaf K (.str x) (.str x)
  | ty (n : String) : Leaf K (.ty n) (.ty n)
  | obj (x : Str) : Leaf K (.ref (He.ga K x)) (.obj x)
/-- it stands in the written part -/
def SqW (K : PySem.W.Frag) (k : Kd) (a : Addr) (vs : List V) : Prop := match k with
  | .tup => SqT K (fun _ => none) a vs
  | .scr => SqL K (fun _ => none) a vs
  | _ => False
mutual
/-- what is never changed any more: it stands in Z, or in the written part -/
inductive FRep (K : PySem.W.Frag) (Z : Hp) : V → D → Prop
  | leaf {v d} : Leaf K v d → FRep K Z v d
  | node {a o k vs ds d} : Z a = some o → oview o = some (k, vs) → dview K d = some (k, ds) → FReps K Z vs ds → FRep K Z (.ref a) d
  | wr {a k vs ds d} : SqW K k a vs → dview K d = some (k, ds) → FReps K Z vs ds → FRep K Z (.ref a) d
inductive FReps (K : PySem.W.Frag) (Z : Hp) : List V → List D → Prop
  | nil : FReps K Z [] []
  | cons {v d vs ds} : FRep K Z v d → FReps K Z vs ds → FReps K Z (v :: vs) (d :: ds)
end
def Le (Z Z' : Hp) : Prop := ∀ a o, Z a = some o → Z' a = some o
theorem Le.refl (Z : Hp) : Le Z Z := fun _ _ h => h
theorem Le.tr {Z Z1 Z2 : Hp} (a : Le Z Z1) (b : Le Z1 Z2) : Le Z Z2 := fun c o h => b c o (a c o h)
def lockable : HO → Prop
  | .dK _ => True
  | .dT _ => True
  | _ => False
/-- what is frozen stands in H, perhaps locked -/
def Sub (Z H : Hp) : Prop := ∀ a o, Z a = some o → H a = some o ∨ (lockable o ∧ ∃ b, H a = some (.frz b o))
theorem Sub.rd {Z H : Hp} (s : Sub Z H) {a : Addr} {o : HO} (h : Z a = some o) : Rd H a o := (s a o h).imp id fun z => z.2
theorem Sub.ins {Z H : Hp} (s : Sub Z H) {a C dx : Addr} {fs : List (Str × V)} (h : Z a = some (.ins C dx fs)) : H a = some (.ins C dx fs) := by
  rcases s _ _ h with z | ⟨z, _⟩
  · exact z
  · exact z.elim
theorem Sub.some {Z H : Hp} (s : Sub Z H) {a : Addr} {o : HO} (h : Z a = Option.some o) : ∃ u, H a = Option.some u := by
  rcases s _ _ h with z | ⟨_, b, z⟩ <;> exact ⟨_, z⟩
section
variable {K : PySem.W.Frag} {Z Z' H H' : Hp}
mutual
theorem FRep.mono (e : Le Z Z') : ∀ {v d}, FRep K Z v d → FRep K Z' v d
  | _, _, .leaf h => .leaf h
  | _, _, .node h1 h2 h3 h4 => .node (e _ _ h1) h2 h3 (FReps.mono e h4)
  | _, _, .wr h1 h3 h4 => .wr h1 h3 (FReps.mono e h4)
theorem FReps.mono (e : Le Z Z') : ∀ {vs ds}, FReps K Z vs ds → FReps K Z' vs ds
  | _, _, .nil => .nil
  | _, _, .cons h t => .cons (FRep.mono e h) (FReps.mono e t)
end
/-- what is owned: nothing of it (fz), it itself (o1), it itself and its parts by their places (nd) -/
inductive Tg where
  | fz | o1 | nd (c : Nat → Tg)
abbrev Tg.u (c : Tg) : Tg := .nd fun _ => c
def Tg.ch : Tg → Nat → Tg
  | .nd c, i => c i
  | _, _ => .fz
def RepL (P : Nat → V → D → List Addr → Prop) : Nat → List V → List D → List Addr → Prop
  | _, [], [], fp => fp = []
  | i, v :: vs, d :: ds, fp => ∃ f1 f2, P i v d f1 ∧ RepL P (i + 1) vs ds f2 ∧ fp = f1 ++ f2
  | _, _, _, _ => False
def Rep (K : PySem.W.Frag) (Z H : Hp) : Tg → V → D → List Addr → Prop
  | .fz, v, d, fp => FRep K Z v d ∧ fp = []
  | .o1, v, d, fp => (Leaf K v d ∧ fp = []) ∨ ∃ a o k vs ds, v = .ref a ∧ H a = some o ∧ oview o = some (k, vs) ∧ dview K d = some (k, ds) ∧ FReps K Z vs ds ∧ fp = [a]
  | .nd c, v, d, fp => (Leaf K v d ∧ fp = []) ∨ ∃ a o k vs ds f, v = .ref a ∧ H a = some o ∧ oview o = some (k, vs) ∧ dview K d = some (k, ds) ∧ RepL (fun i => Rep K Z H (c i)) 0 vs ds f ∧ fp = a :: f
theorem RepL.imp {P P' : Nat → V → D → List Addr → Prop} : ∀ {vs ds fp i}, (∀ i v d f, (∀ a ∈ f, a ∈ fp) → P i v d f → P' i v d f) → RepL P i vs ds fp → RepL P' i vs ds fp
  | [], [], _, _, _, h => h
  | v :: vs, d :: ds, fp, i, e, ⟨f1, f2, h1, h2, h3⟩ =>
    ⟨f1, f2, e i v d f1 (fun a m => by rw [h3]; exact List.mem_append_left _ m) h1, RepL.imp (fun i v d f m => e i v d f fun a z => by rw [h3]; exact List.mem_append_right _ (m a z)) h2, h3⟩
  | [], _ :: _, _, _, _, h => h.elim
  | _ :: _, [], _, _, _, h => h.elim
theorem Rep.frame (ez : Le Z Z') : ∀ {t v d fp}, (∀ a ∈ fp, ∀ o, H a = some o → H' a = some o) → Rep K Z H t v d fp → Rep K Z' H' t v d fp
  | .fz, _, _, _, _, ⟨h, e⟩ => ⟨h.mono ez, e⟩
  | .o1, v, d, fp, e, h => by
    rcases h with h | ⟨a, o, k, vs, ds, h1, h2, h3, h4, h5, h6⟩
    · exact .inl h
    · subst h6
      exact .inr ⟨a, o, k, vs, ds, h1, e a List.mem_cons_self o h2, h3, h4, h5.mono ez, rfl⟩
  | .nd c, v, d, fp, e, h => by
    rcases h with h | ⟨a, o, k, vs, ds, f, h1, h2, h3, h4, h5, h6⟩
    · exact .inl h
    · subst h6
      refine .inr ⟨a, o, k, vs, ds, f, h1, e a List.mem_cons_self o h2, h3, h4, ?_, rfl⟩
      exact RepL.imp (fun i v d f' m q => Rep.frame (t := c i) ez (fun b hb => e b (List.mem_cons_of_mem _ (m b hb))) q) h5
theorem RepL.alive {P : Nat → V → D → List Addr → Prop} {A : Addr → Prop} (e : ∀ i v d f, P i v d f → ∀ a ∈ f, A a) : ∀ {vs ds fp i}, RepL P i vs ds fp → ∀ a ∈ fp, A a
  | [], [], _, _, h, a, m => by rw [show _ = [] from h] at m; cases m
  | v :: vs, d :: ds, fp, i, ⟨f1, f2, h1, h2, h3⟩, a, m => by
    rw [h3] at m
    rcases List.mem_append.mp m with m | m
    · exact e i v d f1 h1 a m
    · exact RepL.alive e h2 a m
  | [], _ :: _, _, _, h, _, _ => h.elim
  | _ :: _, [], _, _, h, _, _ => h.elim
theorem Rep.alive : ∀ {t v d fp}, Rep K Z H t v d fp → ∀ a ∈ fp, ∃ o, H a = some o
  | .fz, _, _, _, ⟨_, e⟩, a, m => by rw [e] at m; cases m
  | .o1, v, d, fp, h, b, m => by
    rcases h with ⟨_, e⟩ | ⟨a, o, k, vs, ds, h1, h2, h3, h4, h5, h6⟩
    · rw [e] at m; cases m
    · subst h6
      rcases List.mem_cons.mp m with rfl | m
      · exact ⟨o, h2⟩
      · cases m
  | .nd c, v, d, fp, h, b, m => by
    rcases h with ⟨_, e⟩ | ⟨a, o, k, vs, ds, f, h1, h2, h3, h4, h5, h6⟩
    · rw [e] at m; cases m
    · subst h6
      rcases List.mem_cons.mp m with rfl | m
      · exact ⟨o, h2⟩
      · exact RepL.alive (fun i v d f' q => Rep.alive (t := c i) q) h5 b m
/-- Z and what H holds at F -/
def zcat (Z H : Hp) (F : List Addr) : Hp := fun a => match Z a with
  | some o => some o
  | none => if a ∈ F then H a else none
theorem zcat_le {F : List Addr} : Le Z (zcat Z H F) := fun a o h => by unfold zcat; rw [h]
theorem zcat_new {F : List Addr} {a : Addr} {o : HO} (h : Z a = none) (m : a ∈ F) (e : H a = some o) : zcat Z H F a = some o := by unfold zcat; rw [h]; simp [m, e]
theorem zcat_of {F : List Addr} {a : Addr} {o : HO} (h : zcat Z H F a = some o) : Z a = some o ∨ (a ∈ F ∧ H a = some o) := by
  unfold zcat at h
  cases q : Z a with
  | some u => rw [q] at h; exact .inl h
  | none =>
    rw [q] at h
    by_cases m : a ∈ F
    · simp [m] at h; exact .inr ⟨m, h⟩
    · simp [m] at h
theorem RepL.fr {P : Nat → V → D → List Addr → Prop} {ZZ : Hp} : ∀ {vs ds fp i}, (∀ i v d f, (∀ a ∈ f, a ∈ fp) → P i v d f → FRep K ZZ v d) → RepL P i vs ds fp → FReps K ZZ vs ds
  | [], [], _, _, _, _ => .nil
  | v :: vs, d :: ds, fp, i, e, ⟨f1, f2, h1, h2, h3⟩ =>
    .cons (e i v d f1 (fun a m => by rw [h3]; exact List.mem_append_left _ m) h1) (RepL.fr (fun i v d f m => e i v d f fun a z => by rw [h3]; exact List.mem_append_right _ (m a z)) h2)
  | [], _ :: _, _, _, _, h => h.elim
  | _ :: _, [], _, _, _, h => h.elim
/-- what is owned is frozen -/
theorem Rep.freeze {F : List Addr} : ∀ {t v d fp}, (∀ a ∈ fp, Z a = none ∧ a ∈ F) → Rep K Z H t v d fp → FRep K (zcat Z H F) v d
  | .fz, _, _, _, _, ⟨h, _⟩ => h.mono zcat_le
  | .o1, v, d, fp, e, h => by
    rcases h with h | ⟨a, o, k, vs, ds, h1, h2, h3, h4, h5, h6⟩
    · exact .leaf h.1
    · subst h6 h1
      exact .node (zcat_new (e a List.mem_cons_self).1 (e a List.mem_cons_self).2 h2) h3 h4 (h5.mono zcat_le)
  | .nd c, v, d, fp, e, h => by
    rcases h with h | ⟨a, o, k, vs, ds, f, h1, h2, h3, h4, h5, h6⟩
    · exact .leaf h.1
    · subst h6 h1
      exact .node (zcat_new (e a List.mem_cons_self).1 (e a List.mem_cons_self).2 h2) h3 h4 (RepL.fr (fun i v d f' m q => Rep.freeze (t := c i) (fun b hb => e b (List.mem_cons_of_mem _ (m b hb))) q) h5)
/-- H with its locks open -/
def rdH (H : Hp) : Hp := fun a => match H a with
  | some (.frz _ (.dK k)) => some (.dK k)
  | some (.frz _ (.dT k)) => some (.dT k)
  | x => x
theorem rdH_of {a : Addr} {o : HO} {p : Kd × List V} (h : H a = some o) (n : oview o = some p) : rdH H a = some o := by
  unfold rdH; rw [h]
  split
  · rename_i e; cases e; cases n
  · rename_i e; cases e; cases n
  · rfl
theorem rdH_frz {a : Addr} {o : HO} {b : Obj} (h : H a = some (.frz b o)) (l : lockable o) : rdH H a = some o := by
  unfold rdH; rw [h]
  cases o <;> first | rfl | exact l.elim
theorem of_rdH {a : Addr} {o : HO} (h : rdH H a = some o) : H a = some o ∨ (lockable o ∧ ∃ b, H a = some (.frz b o)) := by
  unfold rdH at h
  split at h
  · rename_i b u e; cases h; exact .inr ⟨trivial, b, e⟩
  · rename_i b u e; cases h; exact .inr ⟨trivial, b, e⟩
  · exact .inl h
theorem rdH_sub : Sub (rdH H) H := fun _ _ h => of_rdH h
mutual
/-- what can be read stands in H -/
theorem FRep.rd (s : Sub Z H) : ∀ {v d}, FRep K Z v d → FRep K (rdH H) v d
  | _, _, .leaf h => .leaf h
  | _, _, .node (a := a) (o := o) h1 h2 h3 h4 => .node (a := a) (o := o) (by
      rcases s a o h1 with z | ⟨l, b, z⟩
      · exact rdH_of z h2
      · exact rdH_frz z l) h2 h3 (FReps.rd s h4)
  | _, _, .wr h1 h3 h4 => .wr h1 h3 (FReps.rd s h4)
theorem FReps.rd (s : Sub Z H) : ∀ {vs ds}, FReps K Z vs ds → FReps K (rdH H) vs ds
  | _, _, .nil => .nil
  | _, _, .cons h t => .cons (FRep.rd s h) (FReps.rd s t)
end
theorem Rep.rd (s : Sub Z H) : ∀ {t v d fp}, Rep K Z H t v d fp → FRep K (rdH H) v d
  | .fz, _, _, _, ⟨h, _⟩ => h.rd s
  | .o1, v, d, fp, h => by
    rcases h with h | ⟨a, o, k, vs, ds, h1, h2, h3, h4, h5, h6⟩
    · exact .leaf h.1
    · subst h1; exact .node (rdH_of h2 h3) h3 h4 (h5.rd s)
  | .nd c, v, d, fp, h => by
    rcases h with h | ⟨a, o, k, vs, ds, f, h1, h2, h3, h4, h5, h6⟩
    · exact .leaf h.1
    · subst h1; exact .node (rdH_of h2 h3) h3 h4 (RepL.fr (fun i v d f' m q => Rep.rd s (t := c i) q) h5)
theorem FRep.leaf_of {v : V} {d : D} (hd : dview K d = none) : FRep K Z v d → Leaf K v d
  | .leaf h => h
  | .node _ _ h3 _ => by rw [hd] at h3; cases h3
  | .wr _ h3 _ => by rw [hd] at h3; cases h3
theorem Rep.leaf_of {t : Tg} {v : V} {d : D} {fp : List Addr} (s : Sub Z H) (hd : dview K d = none) (h : Rep K Z H t v d fp) : Leaf K v d := (h.rd s).leaf_of hd
/-- a node that can be read -/
theorem FRep.node_of {v : V} {d : D} {k : Kd} {ds : List D} (hd : dview K d = some (k, ds)) (h : FRep K Z v d) :
    ∃ a vs, v = .ref a ∧ FReps K Z vs ds ∧ ((∃ o, Z a = some o ∧ oview o = some (k, vs)) ∨ SqW K k a vs) := by
  cases h with
  | leaf h => cases h <;> cases hd
  | node h1 h2 h3 h4 =>
    rw [hd] at h3; cases h3
    exact ⟨_, _, rfl, h4, .inl ⟨_, h1, h2⟩⟩
  | wr h1 h3 h4 => rw [hd] at h3; cases h3; exact ⟨_, _, rfl, h4, .inr h1⟩
theorem oview_frz {b : Obj} {o : HO} {k : Kd} {vs : List V} (h : oview (.frz b o) = some (k, vs)) : k = .scr ∧ o = .lst vs := by
  cases o <;> cases h
  exact ⟨rfl, rfl⟩
theorem oview_tup {o : HO} {vs : List V} (h : oview o = some (.tup, vs)) : o = .tup vs := by
  cases o with
  | tup xs => cases h; rfl
  | frz b o => cases (oview_frz h).1
  | _ => cases h
theorem oview_lst {o : HO} {vs : List V} (h : oview o = some (.lst, vs)) : o = .lst vs := by
  cases o with
  | lst xs => cases h; rfl
  | frz b o => cases (oview_frz h).1
  | _ => cases h
theorem oview_scr {o : HO} {vs : List V} (h : oview o = some (.scr, vs)) : ∃ b, o = .frz b (.lst vs) := by
  cases o with
  | frz b o => obtain ⟨_, rfl⟩ := oview_frz h; exact ⟨b, rfl⟩
  | _ => cases h
theorem oview_dk {o : HO} {ks : List Key} {vs : List V} (h : oview o = some (.dk ks, vs)) : ∃ kvs, o = .dK kvs ∧ kvs.map (·.1) = ks ∧ kvs.map (·.2) = vs := by
  cases o with
  | dK kvs => cases h; exact ⟨_, rfl, rfl, rfl⟩
  | frz b o => cases (oview_frz h).1
  | _ => cases h
theorem oview_dt {o : HO} {ks : List (List Key)} {vs : List V} (h : oview o = some (.dt ks, vs)) : ∃ kvs, o = .dT kvs ∧ kvs.map (·.1) = ks ∧ kvs.map (·.2) = vs := by
  cases o with
  | dT kvs => cases h; exact ⟨_, rfl, rfl, rfl⟩
  | frz b o => cases (oview_frz h).1
  | _ => cases h
theorem oview_ins {o : HO} {C : Addr} {ns : List Str} {vs : List V} (h : oview o = some (.ins C ns, vs)) : ∃ dx fs, o = .ins C dx fs ∧ fs.map (·.1) = ns ∧ fs.map (·.2) = vs := by
  cases o with
  | ins C dx fs => cases h; exact ⟨_, _, rfl, rfl, rfl⟩
  | frz b o => cases (oview_frz h).1
  | _ => cases h
theorem sqT_wr {a : Addr} {vs : List V} (h : SqT K (fun _ => none) a vs) : SqT K H a vs := by
  rcases h with (h | ⟨_, h⟩) | h
  · cases h
  · cases h
  · exact .inr h
theorem FRep.tup_of {v : V} {ds : List D} (h : FRep K (rdH H) v (.tup ds)) : ∃ a vs, v = .ref a ∧ SqT K H a vs ∧ FReps K (rdH H) vs ds := by
  obtain ⟨a, vs, h1, h2, h3⟩ := h.node_of (k := .tup) (ds := ds) rfl
  refine ⟨a, vs, h1, ?_, h2⟩
  rcases h3 with ⟨o, h3, h4⟩ | h3
  · rw [oview_tup h4] at h3; exact .inl (rdH_sub.rd h3)
  · exact sqT_wr h3
/-- a list stands in H as it is -/
theorem FRep.lst_of {v : V} {ds : List D} (s : Sub Z H) (h : FRep K Z v (.lst ds)) : ∃ a vs, v = .ref a ∧ H a = some (.lst vs) ∧ FReps K Z vs ds := by
  obtain ⟨a, vs, h1, h2, h3⟩ := h.node_of (k := .lst) (ds := ds) rfl
  refine ⟨a, vs, h1, ?_, h2⟩
  rcases h3 with ⟨o, h3, h4⟩ | q
  · rw [oview_lst h4] at h3
    rcases s _ _ h3 with z | ⟨z, _⟩
    · exact z
    · exact z.elim
  · exact q.elim
theorem FRep.ins_of {v : V} {c : Str} {fs : List (Str × D)} (s : Sub Z H) (h : FRep K Z v (.ins c fs)) : ∃ a dx gs, v = .ref a ∧ H a = some (.ins (He.ga K c) dx gs) ∧ gs.map (·.1) = fs.map (·.1) ∧ FReps K Z (gs.map (·.2)) (fs.map (·.2)) := by
  obtain ⟨a, vs, h1, h2, h3⟩ := h.node_of (k := .ins (He.ga K c) (fs.map (·.1))) (ds := fs.map (·.2)) rfl
  rcases h3 with ⟨o, h3, h4⟩ | q
  · obtain ⟨dx, gs, rfl, e1, rfl⟩ := oview_ins h4
    exact ⟨a, dx, gs, h1, s.ins h3, e1, h2⟩
  · exact q.elim
theorem FRep.dk_of {v : V} {kvs : List (Key × D)} (s : Sub Z H) (h : FRep K Z v (.dk kvs)) : ∃ a gs, v = .ref a ∧ Rd H a (.dK gs) ∧ gs.map (·.1) = kvs.map (·.1) ∧ FReps K Z (gs.map (·.2)) (kvs.map (·.2)) := by
  obtain ⟨a, vs, h1, h2, h3⟩ := h.node_of (k := .dk (kvs.map (·.1))) (ds := kvs.map (·.2)) rfl
  rcases h3 with ⟨o, h3, h4⟩ | q
  · obtain ⟨gs, rfl, e1, rfl⟩ := oview_dk h4
    exact ⟨a, gs, h1, s.rd h3, e1, h2⟩
  · exact q.elim
theorem FRep.dt_of {v : V} {kvs : List (List Key × D)} (s : Sub Z H) (h : FRep K Z v (.dt kvs)) : ∃ a gs, v = .ref a ∧ Rd H a (.dT gs) ∧ gs.map (·.1) = kvs.map (·.1) ∧ FReps K Z (gs.map (·.2)) (kvs.map (·.2)) := by
  obtain ⟨a, vs, h1, h2, h3⟩ := h.node_of (k := .dt (kvs.map (·.1))) (ds := kvs.map (·.2)) rfl
  rcases h3 with ⟨o, h3, h4⟩ | q
  · obtain ⟨gs, rfl, e1, rfl⟩ := oview_dt h4
    exact ⟨a, gs, h1, s.rd h3, e1, h2⟩
  · exact q.elim
theorem FReps.ints : ∀ {vs : List V} {xs : List Int}, FReps K Z vs (xs.map D.int) → vs = xs.map V.int
  | _, [], .nil => rfl
  | _, x :: r, .cons q t => by
    have h := q.leaf_of (d := .int x) rfl
    cases h
    rw [FReps.ints t]; rfl
theorem sqL_wr {a : Addr} {vs : List V} (h : SqL K (fun _ => none) a vs) : SqL K H a vs := by
  rcases h with (h | ⟨_, h⟩) | h
  · cases h
  · cases h
  · exact .inr h
theorem FRep.scr_of {v : V} {xs : List Int} (s : Sub Z H) (h : FRep K Z v (.scr xs)) : ∃ a, v = .ref a ∧ SqL K H a (xs.map V.int) := by
  obtain ⟨a, vs, h1, h2, h3⟩ := h.node_of (k := .scr) (ds := xs.map .int) rfl
  obtain rfl := FReps.ints h2
  rcases h3 with ⟨o, h3, h4⟩ | q
  · obtain ⟨b, rfl⟩ := oview_scr h4
    refine ⟨a, h1, .inl (.inr ⟨b, ?_⟩)⟩
    rcases s _ _ h3 with z | ⟨z, _⟩
    · exact z
    · exact z.elim
  · exact ⟨a, h1, sqL_wr q⟩
/-- its parts are never changed any more -/
def Tg.flat : Tg → Bool
  | .nd _ => false
  | _ => true
/-- of what is owned itself at most: as if it were frozen in Z and H at fp -/
theorem Rep.flat {t : Tg} {v : V} {d : D} {fp : List Addr} {k : Kd} {ds : List D} (ht : t.flat = true) (s : Sub Z H) (hd : dview K d = some (k, ds)) (h : Rep K Z H t v d fp) :
    ∃ Z1, Sub Z1 H ∧ FRep K Z1 v d ∧ ∃ a vs, v = .ref a ∧ FReps K Z vs ds ∧ ((∃ o, (Z a = some o ∨ H a = some o) ∧ oview o = some (k, vs)) ∨ SqW K k a vs) := by
  refine ⟨rdH H, rdH_sub, h.rd s, ?_⟩
  cases t with
  | nd c => cases ht
  | fz =>
    obtain ⟨a, vs, h1, h2, h3⟩ := h.1.node_of hd
    exact ⟨a, vs, h1, h2, h3.imp (fun ⟨o, z, q⟩ => ⟨o, .inl z, q⟩) id⟩
  | o1 =>
    rcases h with ⟨h, _⟩ | ⟨a, o, k', vs, ds', h1, h2, h3, h4, h5, h6⟩
    · cases h <;> cases hd
    · rw [hd] at h4; cases h4
      exact ⟨a, vs, h1, h5, .inl ⟨o, .inr h2, h3⟩⟩
theorem FReps.len : ∀ {vs : List V} {ds : List D}, FReps K Z vs ds → vs.length = ds.length
  | _, _, .nil => rfl
  | _, _, .cons _ t => congrArg (· + 1) (FReps.len t)
theorem FReps.get : ∀ {vs : List V} {ds : List D} {i : Nat} {d : D}, FReps K Z vs ds → ds[i]? = some d → ∃ v, vs[i]? = some v ∧ FRep K Z v d
  | _, _, i, _, .nil, e => by simp at e
  | _, _, 0, _, .cons r _, e => by simp at e; subst e; exact ⟨_, rfl, r⟩
  | _, _, i + 1, _, .cons _ t, e => by simpa using FReps.get (i := i) t (by simpa using e)
theorem FReps.app : ∀ {vs us : List V} {ds es : List D}, FReps K Z vs ds → FReps K Z us es → FReps K Z (vs ++ us) (ds ++ es)
  | _, _, _, _, .nil, h => h
  | _, _, _, _, .cons r t, h => .cons r (FReps.app t h)
theorem FReps.take : ∀ {vs : List V} {ds : List D} (n : Nat), FReps K Z vs ds → FReps K Z (vs.take n) (ds.take n)
  | _, _, 0, _ => .nil
  | _, _, _ + 1, .nil => .nil
  | _, _, n + 1, .cons r t => .cons r (FReps.take n t)
theorem FReps.drop : ∀ {vs : List V} {ds : List D} (n : Nat), FReps K Z vs ds → FReps K Z (vs.drop n) (ds.drop n)
  | _, _, 0, r => r
  | _, _, _ + 1, .nil => .nil
  | _, _, n + 1, .cons _ t => FReps.drop n t
theorem FReps.set {v : V} {d : D} (r : FRep K Z v d) : ∀ {vs : List V} {ds : List D} (n : Nat), FReps K Z vs ds → FReps K Z (vs.set n v) (ds.set n d)
  | _, _, _, .nil => .nil
  | _, _, 0, .cons _ t => .cons r t
  | _, _, n + 1, .cons q t => .cons q (FReps.set r n t)
theorem FReps.rev : ∀ {vs : List V} {ds : List D}, FReps K Z vs ds → FReps K Z vs.reverse ds.reverse
  | _, _, .nil => .nil
  | _, _, .cons r t => by rw [List.reverse_cons, List.reverse_cons]; exact (FReps.rev t).app (.cons r .nil)
end
end Mi

/-! M1: entries, states, steps, readings by functions. -/
namespace Mi
open PySem PySem.Spec PyProof.Rows L2 Rt
/-- what a name (or a value on the way) is: unknown; never changed any more; owned; what name i holds -/
inductive Sl where
  | un | fz (d : D) | ow (t : Tg) (d : D) | al (i : Nat)
structure Ent where
  v : Option V
  s : Sl
  fp : List Addr
abbrev vsOf (es : List Ent) : List (Option V) := es.map Ent.v
abbrev ssOf (es : List Ent) : List Sl := es.map Ent.s
abbrev fpsOf (es : List Ent) : List Addr := es.flatMap Ent.fp
def EntOk (K : PySem.W.Frag) (Z H : Hp) (es : List Ent) (e : Ent) : Prop := match e.s with
  | .un => e.fp = []
  | .fz d => ∃ x, e.v = some x ∧ FRep K Z x d ∧ e.fp = []
  | .ow t d => ∃ x, e.v = some x ∧ Rep K Z H t x d e.fp
  | .al i => e.fp = [] ∧ ∃ u x, es[i]? = some u ∧ u.v = some x ∧ e.v = some x
structure Sat (K : PySem.W.Frag) (Z H : Hp) (es ts : List Ent) : Prop where
  sub : Sub Z H
  nd : (fpsOf (es ++ ts)).Nodup
  zf : ∀ a ∈ fpsOf (es ++ ts), Z a = none
  ok : ∀ e ∈ es ++ ts, EntOk K Z H es e
structure Step (Z H : Hp) (F : List Addr) (Z' H' : Hp) (F' : List Addr) : Prop where
  keep : ∀ a o, H a = some o → a ∉ F → H' a = some o
  fps : ∀ a ∈ F', a ∈ F ∨ H a = none
  z : Le Z Z'
  zn : ∀ a o, Z' a = some o → Z a = some o ∨ a ∈ F ∨ H a = none
theorem Step.refl {Z H : Hp} {F F' : List Addr} (h : ∀ a ∈ F', a ∈ F) : Step Z H F Z H F' := ⟨fun _ _ e _ => e, fun a m => .inl (h a m), Le.refl _, fun _ _ e => .inl e⟩
theorem Step.tr {Z H Z1 H1 Z2 H2 : Hp} {F F1 F2 : List Addr} (a : Step Z H F Z1 H1 F1) (b : Step Z1 H1 F1 Z2 H2 F2) : Step Z H F Z2 H2 F2 := by
  have nf : ∀ c o, H c = some o → c ∉ F → c ∉ F1 := fun c o e n m => by
    rcases a.fps c m with z | z
    · exact n z
    · rw [e] at z; cases z
  have nn : ∀ c, H1 c = none → c ∈ F ∨ H c = none := fun c z => by
    by_cases m : c ∈ F
    · exact .inl m
    · right
      cases q : H c with
      | none => rfl
      | some o => rw [a.keep c o q m] at z; cases z
  refine ⟨fun c o e n => b.keep c o (a.keep c o e n) (nf c o e n), fun c m => ?_, a.z.tr b.z, fun c o e => ?_⟩
  · rcases b.fps c m with z | z
    · exact a.fps c z
    · exact nn c z
  · rcases b.zn c o e with z | z | z
    · exact a.zn c o z
    · exact .inr (a.fps c z)
    · exact .inr (nn c z)
theorem Step.wide {Z H Z1 H1 : Hp} {F F1 G : List Addr} (a : Step Z H F Z1 H1 F1) (h : ∀ c ∈ F, c ∈ G) : Step Z H G Z1 H1 F1 :=
  ⟨fun c o e n => a.keep c o e fun m => n (h c m), fun c m => (a.fps c m).imp (h c) id, a.z, fun c o e => (a.zn c o e).imp id fun z => z.imp (h c) id⟩
theorem Step.less {Z H Z1 H1 : Hp} {F F1 G : List Addr} (a : Step Z H F Z1 H1 F1) (h : ∀ c ∈ G, c ∈ F1) : Step Z H F Z1 H1 G :=
  ⟨a.keep, fun c m => a.fps c (h c m), a.z, a.zn⟩
section
variable {K : PySem.W.Frag} {Z H Z' H' Z1 H1 Z2 H2 : Hp} {es es1 es2 ts us : List Ent}
theorem mem_fps {l : List Ent} {a : Addr} : a ∈ fpsOf l ↔ ∃ e ∈ l, a ∈ e.fp := by simp [List.mem_flatMap]
theorem EntOk.alive {e : Ent} (h : EntOk K Z H es e) : ∀ a ∈ e.fp, ∃ o, H a = some o := by
  intro a m
  unfold EntOk at h
  split at h
  · rw [h] at m; cases m
  · obtain ⟨_, _, _, q⟩ := h; rw [q] at m; cases m
  · obtain ⟨x, _, q⟩ := h; exact q.alive a m
  · rw [h.1] at m; cases m
theorem Sat.alive (s : Sat K Z H es ts) : ∀ a ∈ fpsOf (es ++ ts), ∃ o, H a = some o := by
  intro a m
  obtain ⟨e, me, ma⟩ := mem_fps.mp m
  exact (s.ok e me).alive a ma
theorem EntOk.frame {e : Ent} (h : EntOk K Z H es e) (hz : Le Z Z') (hk : ∀ a ∈ e.fp, ∀ o, H a = some o → H' a = some o) (hv : vsOf es2 = vsOf es) : EntOk K Z' H' es2 e := by
  unfold EntOk at h ⊢
  split at h
  · exact h
  · obtain ⟨x, h1, h2, h3⟩ := h; exact ⟨x, h1, h2.mono hz, h3⟩
  · obtain ⟨x, h1, h2⟩ := h; exact ⟨x, h1, h2.frame hz hk⟩
  · obtain ⟨h0, u, x, h1, h2, h3⟩ := h
    rename_i i _
    have e1 : (vsOf es2)[i]? = some (some x) := by rw [hv, List.getElem?_map, h1]; simp [h2]
    rw [List.getElem?_map] at e1
    cases q : es2[i]? with
    | none => rw [q] at e1; cases e1
    | some u2 => rw [q] at e1; simp at e1; exact ⟨h0, u2, x, rfl, e1, h3⟩
theorem fps_app {a b : List Ent} {c : Addr} : c ∈ fpsOf (a ++ b) ↔ c ∈ fpsOf a ∨ c ∈ fpsOf b := by simp [List.flatMap_append]
/-- what is on the way stands while a part is reckoned -/
theorem Sat.frame (s : Sat K Z1 H1 es1 ts) (st : Step Z1 H1 (fpsOf es1) Z2 H2 (fpsOf (es2 ++ us))) (s2 : Sat K Z2 H2 es2 us) (hv : vsOf es2 = vsOf es1) :
    Sat K Z2 H2 es2 (ts ++ us) ∧ Step Z1 H1 (fpsOf (es1 ++ ts)) Z2 H2 (fpsOf (es2 ++ (ts ++ us))) := by
  have al : ∀ a ∈ fpsOf ts, ∃ o, H1 a = some o := fun a m => s.alive a (fps_app.mpr (.inr m))
  have nd := s.nd
  simp only [fpsOf, List.flatMap_append, List.nodup_append] at nd
  have nf : ∀ a ∈ fpsOf ts, a ∉ fpsOf es1 := fun a m z => nd.2.2 a z a m rfl
  have n2 : ∀ a ∈ fpsOf ts, a ∉ fpsOf (es2 ++ us) := fun a m z => by
    rcases st.fps a z with q | q
    · exact nf a m q
    · obtain ⟨o, e⟩ := al a m; rw [e] at q; cases q
  refine ⟨⟨s2.sub, ?_, fun a m => ?_, fun e m => ?_⟩, ?_⟩
  · have h2 := s2.nd
    simp only [fpsOf, List.flatMap_append, List.nodup_append] at h2 ⊢
    refine ⟨h2.1, ⟨nd.2.1, h2.2.1, fun a m b mb z => ?_⟩, fun a m b mb z => ?_⟩
    · subst z; exact n2 a m (fps_app.mpr (.inr mb))
    · subst z
      rcases List.mem_append.mp mb with q | q
      · exact n2 a q (fps_app.mpr (.inl m))
      · exact h2.2.2 a m a q rfl
  · rcases fps_app.mp m with q | q
    · exact s2.zf a (fps_app.mpr (.inl q))
    · rcases fps_app.mp q with q | q
      · cases e : Z2 a with
        | none => rfl
        | some o =>
          rcases st.zn a o e with z | z | z
          · rw [s.zf a (fps_app.mpr (.inr q))] at z; cases z
          · exact (nf a q z).elim
          · obtain ⟨o', e'⟩ := al a q; rw [e'] at z; cases z
      · exact s2.zf a (fps_app.mpr (.inr q))
  · rcases List.mem_append.mp m with q | q
    · exact s2.ok e (List.mem_append_left _ q)
    · rcases List.mem_append.mp q with q | q
      · exact (s.ok e (List.mem_append_right _ q)).frame st.z (fun a ma o e' => st.keep a o e' (nf a (mem_fps.mpr ⟨e, q, ma⟩))) hv
      · exact s2.ok e (List.mem_append_right _ q)
  · refine ⟨fun a o e n => st.keep a o e fun z => n (fps_app.mpr (.inl z)), fun a m => ?_, st.z, fun a o e => ?_⟩
    · rcases fps_app.mp m with q | q
      · exact (st.fps a (fps_app.mpr (.inl q))).imp (fun z => fps_app.mpr (.inl z)) id
      · rcases fps_app.mp q with q | q
        · exact .inl (fps_app.mpr (.inr q))
        · exact (st.fps a (fps_app.mpr (.inr q))).imp (fun z => fps_app.mpr (.inl z)) id
    · exact (st.zn a o e).imp id fun z => z.imp (fun z => fps_app.mpr (.inl z)) id
theorem Sat.drop (s : Sat K Z H es (ts ++ us)) : Sat K Z H es ts := by
  refine ⟨s.sub, ?_, fun a m => s.zf a ?_, fun e m => s.ok e ?_⟩
  · have := s.nd
    rw [← List.append_assoc] at this
    simp only [fpsOf, List.flatMap_append] at this ⊢
    exact (List.nodup_append.mp this).1
  · rw [← List.append_assoc]; exact fps_app.mpr (.inl m)
  · rw [← List.append_assoc]; exact List.mem_append_left _ m
theorem Sat.bare (s : Sat K Z H es ts) : Sat K Z H es [] := Sat.drop (ts := []) (us := ts) (by simpa using s)
end
/-! ### outcomes -/
inductive Ro (α : Type) where
  | ok (a : α) | exc (c : Str) (fs : List (Str × D)) (ss : List Sl) | stuck
def Ro.bind {α β : Type} : Ro α → (α → Ro β) → Ro β
  | .ok a, f => f a
  | .exc c fs ss, _ => .exc c fs ss
  | .stuck, _ => .stuck
abbrev FE := List Sl → Ro (Sl × List Sl)
abbrev FT := List Sl → Ro (Bool × List Sl)
abbrev FA := List Sl → Ro (List Sl × List Sl)
/-- an exception's own dict -/
def ExcD (K : PySem.W.Frag) (Z H : Hp) (d : Addr) (fs : List (Str × D)) : Prop := ∃ vs : List (Str × V), H d = some (.xd vs) ∧ vs.map (·.1) = fs.map (·.1) ∧ FReps K Z (vs.map (·.2)) (fs.map (·.2))
abbrev EW := L2.St → XK
def Kon (K : PySem.W.Frag) (E : EW) (σ : L2.St) (Z H : Hp) (F : List Addr) {α : Type} (m : Ro (α × List Sl)) (rs : α → List Sl) (P : α → Hp → Hp → List Ent → List Ent → Prop) : Prop := match m with
  | .ok (a, ss') => ∀ Z' H' es' us, Step Z H F Z' H' (fpsOf (es' ++ us)) → Sat K Z' H' es' us → vsOf es' = σ → ssOf es' = ss' → ssOf us = rs a → P a Z' H' es' us
  | .exc c fs ss' => ∀ Z' H' es' d, Step Z H F Z' H' (fpsOf es') → Sat K Z' H' es' [] → vsOf es' = σ → ssOf es' = ss' → ExcD K Z' H' d fs → E σ (.ref (He.ga K c)) (some d) H'
  | .stuck => False
section
variable {K : PySem.W.Frag} {E : EW} {σ : L2.St} {Z H Z' H' Z1 H1 : Hp} {F F1 : List Addr} {α β : Type} {m : Ro (α × List Sl)} {rs : α → List Sl} {P P' : α → Hp → Hp → List Ent → List Ent → Prop}
theorem Kon.from (st : Step Z H F Z1 H1 F1) (k : Kon K E σ Z H F m rs P) : Kon K E σ Z1 H1 F1 m rs P := by
  unfold Kon at k ⊢
  split at k
  · exact fun Z' H' es' us st' => k Z' H' es' us (st.tr st')
  · exact fun Z' H' es' d st' => k Z' H' es' d (st.tr st')
  · exact k
theorem Kon.mono (k : Kon K E σ Z H F m rs P) (h : ∀ a Z' H' es' us, ssOf us = rs a → P a Z' H' es' us → P' a Z' H' es' us) : Kon K E σ Z H F m rs P' := by
  unfold Kon at k ⊢
  split at k
  · exact fun Z' H' es' us st s h1 h2 h3 => h _ _ _ _ _ h3 (k Z' H' es' us st s h1 h2 h3)
  · exact k
  · exact k
end
/-- the readings by functions -/
def RE (K : PySem.W.Frag) (E : EW) (f : FE) : TE := fun σ H Q => ∃ Z es, Sat K Z H es [] ∧ vsOf es = σ ∧ Kon K E σ Z H (fpsOf es) (f (ssOf es)) (fun r => [r]) fun _ _ H' _ us => ∀ v, vsOf us = [some v] → Q v H'
def RT (K : PySem.W.Frag) (E : EW) (f : FT) : TT := fun σ H Q => ∃ Z es, Sat K Z H es [] ∧ vsOf es = σ ∧ Kon K E σ Z H (fpsOf es) (f (ssOf es)) (fun _ => []) fun b _ H' _ _ => Q b H'
def RA (K : PySem.W.Frag) (E : EW) (f : FA) : TA := fun σ H Q => ∃ Z es, Sat K Z H es [] ∧ vsOf es = σ ∧ Kon K E σ Z H (fpsOf es) (f (ssOf es)) (fun rs => rs) fun _ _ H' _ us => ∀ vs : List V, vsOf us = vs.map some → Q vs H'
section
variable {K : PySem.W.Frag} {E : EW} {σ : L2.St} {Z H Z' H' Z1 H1 Z2 H2 : Hp} {F F1 : List Addr} {α β : Type} {rs : β → List Sl} {P : β → Hp → Hp → List Ent → List Ent → Prop} {es es1 ts us : List Ent}
/-- the one lemma for what comes next; ts: what is on the way -/
theorem kon_next {m : Ro (α × List Sl)} {n : α × List Sl → Ro (β × List Sl)} {rm : α → List Sl} {Qm : α → Hp → Hp → List Ent → List Ent → Prop} (s : Sat K Z1 H1 es1 ts) (hv : vsOf es1 = σ) (k : Kon K E σ Z1 H1 (fpsOf (es1 ++ ts)) (m.bind n) rs P)
    (h : ∀ a Z2 H2 es2 us, ssOf us = rm a → Sat K Z2 H2 es2 (ts ++ us) → vsOf es2 = σ → Kon K E σ Z2 H2 (fpsOf (es2 ++ (ts ++ us))) (n (a, ssOf es2)) rs P → Qm a Z2 H2 es2 us) : Kon K E σ Z1 H1 (fpsOf es1) m rm Qm := by
  cases m with
  | ok p =>
    obtain ⟨a, ss'⟩ := p
    intro Z2 H2 es2 us st s2 h1 h2 h3
    obtain ⟨s3, st3⟩ := s.frame st s2 (h1.trans hv.symm)
    refine h a Z2 H2 es2 us h3 s3 h1 ?_
    subst h2
    exact Kon.from st3 k
  | exc c fs ss' =>
    intro Z2 H2 es2 d st s2 h1 h2 h3
    exact k Z2 H2 es2 d (st.wide fun a z => fps_app.mpr (.inl z)) s2 h1 h2 h3
  | stuck => exact k
theorem RE.next {f : FE} {n : Sl × List Sl → Ro (β × List Sl)} {Q : VK} (s : Sat K Z1 H1 es1 ts) (hv : vsOf es1 = σ) (k : Kon K E σ Z1 H1 (fpsOf (es1 ++ ts)) ((f (ssOf es1)).bind n) rs P)
    (h : ∀ r Z2 H2 es2 v fp, Sat K Z2 H2 es2 (ts ++ [⟨some v, r, fp⟩]) → vsOf es2 = σ → Kon K E σ Z2 H2 (fpsOf (es2 ++ (ts ++ [⟨some v, r, fp⟩]))) (n (r, ssOf es2)) rs P → Q v H2) : RE K E f σ H1 Q := by
  refine ⟨Z1, es1, s.bare, hv, kon_next s hv k fun a Z2 H2 es2 us e1 s2 e2 k2 v e3 => ?_⟩
  obtain ⟨u, rfl⟩ : ∃ u, us = [u] := List.length_eq_one_iff.mp (by have := congrArg List.length e3; simpa using this)
  obtain ⟨uv, usl, ufp⟩ := u
  simp only [List.map_cons, List.map_nil, List.cons.injEq, and_true] at e1 e3
  subst e1 e3
  exact h usl Z2 H2 es2 v ufp s2 e2 k2
theorem RT.next {f : FT} {n : Bool × List Sl → Ro (β × List Sl)} {Q : Bool → Hp → Prop} (s : Sat K Z1 H1 es1 ts) (hv : vsOf es1 = σ) (k : Kon K E σ Z1 H1 (fpsOf (es1 ++ ts)) ((f (ssOf es1)).bind n) rs P)
    (h : ∀ b Z2 H2 es2, Sat K Z2 H2 es2 ts → vsOf es2 = σ → Kon K E σ Z2 H2 (fpsOf (es2 ++ ts)) (n (b, ssOf es2)) rs P → Q b H2) : RT K E f σ H1 Q := by
  refine ⟨Z1, es1, s.bare, hv, kon_next s hv k fun a Z2 H2 es2 us e1 s2 e2 k2 => ?_⟩
  obtain rfl : us = [] := by simpa using e1
  rw [List.append_nil] at s2 k2
  exact h a Z2 H2 es2 s2 e2 k2
theorem RA.next {f : FA} {n : List Sl × List Sl → Ro (β × List Sl)} {Q : List V → Hp → Prop} (s : Sat K Z1 H1 es1 ts) (hv : vsOf es1 = σ) (k : Kon K E σ Z1 H1 (fpsOf (es1 ++ ts)) ((f (ssOf es1)).bind n) rs P)
    (h : ∀ Z2 H2 es2 us vs, vsOf us = vs.map some → Sat K Z2 H2 es2 (ts ++ us) → vsOf es2 = σ → Kon K E σ Z2 H2 (fpsOf (es2 ++ (ts ++ us))) (n (ssOf us, ssOf es2)) rs P → Q vs H2) : RA K E f σ H1 Q := by
  refine ⟨Z1, es1, s.bare, hv, kon_next s hv k fun a Z2 H2 es2 us e1 s2 e2 k2 vs e3 => ?_⟩
  subst e1
  exact h Z2 H2 es2 us vs e3 s2 e2 k2
end
end Mi

/-! M2: values of what is on the way, what an operation makes, rules for operations. -/
namespace Mi
open PySem PySem.Spec PyProof.Rows L2 Rt
def Sl.val (ss : List Sl) : Sl → Option (Tg × D)
  | .fz d => some (.fz, d)
  | .ow t d => some (t, d)
  | .al i => match ss[i]? with
    | some (.fz d) => some (.fz, d)
    | some (.ow t d) => some (t, d)
    | _ => none
  | .un => none
def valL (ss : List Sl) : List Sl → Option (List (Tg × D))
  | [] => some []
  | r :: rs => (r.val ss).bind fun x => (valL ss rs).bind fun xs => some (x :: xs)
def orS (o : Option Sl) (ss : List Sl) : Ro (Sl × List Sl) := match o with
  | some r => .ok (r, ss)
  | none => .stuck
section
variable {K : PySem.W.Frag} {E : EW} {σ : L2.St} {Z H Z' H' Z1 H1 Z2 H2 : Hp} {es es1 ts us : List Ent}
theorem Sat.val {e : Ent} {x : V} {t : Tg} {d : D} (s : Sat K Z H es ts) (m : e ∈ es ++ ts) (hx : e.v = some x) (h : e.s.val (ssOf es) = some (t, d)) : ∃ fp, Rep K Z H t x d fp ∧ ∀ a ∈ fp, a ∈ fpsOf (es ++ ts) := by
  have go : ∀ u ∈ es ++ ts, u.v = some x → (u.s = .fz d ∧ t = .fz ∨ u.s = .ow t d) → ∃ fp, Rep K Z H t x d fp ∧ ∀ a ∈ fp, a ∈ fpsOf (es ++ ts) := by
    intro u mu hu hh
    have ok := s.ok u mu
    unfold EntOk at ok
    rcases hh with ⟨e1, e2⟩ | e1
    · rw [e1] at ok
      obtain ⟨y, h1, h2, h3⟩ := ok
      rw [hu] at h1; cases h1; subst e2
      exact ⟨[], ⟨h2, rfl⟩, fun a z => by cases z⟩
    · rw [e1] at ok
      obtain ⟨y, h1, h2⟩ := ok
      rw [hu] at h1; cases h1
      exact ⟨_, h2, fun a z => mem_fps.mpr ⟨u, mu, z⟩⟩
  cases q : e.s with
  | un => rw [q] at h; cases h
  | fz d' => rw [q] at h; cases h; exact go e m hx (.inl ⟨q, rfl⟩)
  | ow t' d' => rw [q] at h; cases h; exact go e m hx (.inr q)
  | al i =>
    have ok := s.ok e m
    unfold EntOk at ok
    rw [q] at ok h
    obtain ⟨_, u, y, h1, h2, h3⟩ := ok
    rw [hx] at h3; cases h3
    have mu : u ∈ es ++ ts := List.mem_append_left _ (List.mem_of_getElem? h1)
    have e1 : (ssOf es)[i]? = some u.s := by rw [List.getElem?_map, h1]; rfl
    unfold Sl.val at h
    dsimp only at h
    rw [e1] at h
    cases qu : u.s with
    | un => rw [qu] at h; cases h
    | fz d' => rw [qu] at h; cases h; exact go u mu h2 (.inl ⟨qu, rfl⟩)
    | ow t' d' => rw [qu] at h; cases h; exact go u mu h2 (.inr qu)
    | al j => rw [qu] at h; cases h
/-- an operation that changes nothing has made a value -/
structure New (K : PySem.W.Frag) (Z H Z' H' : Hp) (v : V) (r : Sl) (fv : List Addr) : Prop where
  step : Step Z H [] Z' H' fv
  sub : Sub Z' H'
  ok : EntOk K Z' H' [] ⟨some v, r, fv⟩
  nd : fv.Nodup
  zf : ∀ a ∈ fv, Z' a = none
theorem EntOk.any {e : Ent} (h : EntOk K Z H [] e) : EntOk K Z H es e := by
  unfold EntOk at h ⊢
  split at h
  · exact h
  · exact h
  · exact h
  · obtain ⟨_, _, _, q, _⟩ := h; simp at q
theorem Sat.new {v : V} {r : Sl} {fv : List Addr} (s : Sat K Z H es ts) (n : New K Z H Z' H' v r fv) : Sat K Z' H' es (ts ++ [⟨some v, r, fv⟩]) ∧ Step Z H (fpsOf (es ++ ts)) Z' H' (fpsOf (es ++ (ts ++ [⟨some v, r, fv⟩]))) := by
  have fr : ∀ a ∈ fv, H a = none := fun a m => (n.step.fps a m).elim (fun z => by cases z) id
  have kp : ∀ a o, H a = some o → H' a = some o := fun a o e => n.step.keep a o e (by simp)
  have ef : ∀ a, a ∈ fpsOf (es ++ (ts ++ [⟨some v, r, fv⟩])) ↔ a ∈ fpsOf (es ++ ts) ∨ a ∈ fv := fun a => by
    rw [← List.append_assoc, fps_app (a := es ++ ts)]; simp
  refine ⟨⟨n.sub, ?_, fun a m => ?_, fun e m => ?_⟩, ⟨fun a o e _ => kp a o e, fun a m => ?_, n.step.z, fun a o e => ?_⟩⟩
  · have nd := s.nd
    rw [← List.append_assoc]
    unfold fpsOf at nd ⊢
    rw [List.flatMap_append, List.nodup_append]
    refine ⟨nd, by simpa using n.nd, fun a m b mb z => ?_⟩
    subst z
    obtain ⟨o, e⟩ := s.alive a m
    rw [fr a (by simpa using mb)] at e; cases e
  · rcases (ef a).mp m with q | q
    · cases e : Z' a with
      | none => rfl
      | some o =>
        rcases n.step.zn a o e with z | z | z
        · rw [s.zf a q] at z; cases z
        · cases z
        · obtain ⟨o', e'⟩ := s.alive a q; rw [e'] at z; cases z
    · exact n.zf a q
  · rw [← List.append_assoc] at m
    rcases List.mem_append.mp m with q | q
    · exact (s.ok e q).frame n.step.z (fun a _ o e' => kp a o e') rfl
    · obtain rfl := List.mem_singleton.mp q
      exact n.ok.any
  · rcases (ef a).mp m with q | q
    · exact .inl q
    · exact .inr (fr a q)
  · rcases n.step.zn a o e with z | z | z
    · exact .inl z
    · cases z
    · exact .inr (.inr z)
theorem Sat.dropL (s : Sat K Z H es (ts ++ us)) : Sat K Z H es us := by
  refine ⟨s.sub, ?_, fun a m => s.zf a ?_, fun e m => s.ok e ?_⟩
  · have := s.nd
    simp only [fpsOf, List.flatMap_append] at this ⊢
    rw [List.nodup_append] at this ⊢
    obtain ⟨h1, h2, h3⟩ := this
    exact ⟨h1, (List.nodup_append.mp h2).2.1, fun a m b mb => h3 a m b (List.mem_append_right _ mb)⟩
  · rcases fps_app.mp m with q | q
    · exact fps_app.mpr (.inl q)
    · exact fps_app.mpr (.inr (fps_app.mpr (.inr q)))
  · rcases List.mem_append.mp m with q | q
    · exact List.mem_append_left _ q
    · exact List.mem_append_right _ (List.mem_append_right _ q)
theorem fps_dropL : ∀ a ∈ fpsOf (es ++ us), a ∈ fpsOf (es ++ (ts ++ us)) := fun a m => by
  rcases fps_app.mp m with q | q
  · exact fps_app.mpr (.inl q)
  · exact fps_app.mpr (.inr (fps_app.mpr (.inr q)))
abbrev PQ (Q : VK) : Sl → Hp → Hp → List Ent → List Ent → Prop := fun _ _ H' _ us => ∀ v, vsOf us = [some v] → Q v H'
abbrev KQ (K : PySem.W.Frag) (E : EW) (σ : L2.St) (Z H : Hp) (F : List Addr) (m : Ro (Sl × List Sl)) (Q : VK) : Prop := Kon K E σ Z H F m (fun r => [r]) (PQ Q)
theorem fin_new {Q : VK} {v : V} {r : Sl} {fv : List Addr} (s : Sat K Z H es ts) (hv : vsOf es = σ) (k : KQ K E σ Z H (fpsOf (es ++ ts)) (.ok (r, ssOf es)) Q) (n : New K Z H Z' H' v r fv) : Q v H' := by
  obtain ⟨s', st⟩ := s.new n
  exact k Z' H' es [⟨some v, r, fv⟩] (st.less fps_dropL) s'.dropL hv rfl rfl v rfl
theorem New.leaf {v : V} {d : D} (s : Sub Z H) (h : Leaf K v d) : New K Z H Z H v (.fz d) [] := ⟨Step.refl (by simp), s, ⟨v, rfl, .leaf h, rfl⟩, by simp, by simp⟩
theorem New.fz {v : V} {d : D} (s : Sub Z H) (h : FRep K Z v d) : New K Z H Z H v (.fz d) [] := ⟨Step.refl (by simp), s, ⟨v, rfl, h, rfl⟩, by simp, by simp⟩
theorem Sub.upd {p : Addr} {o : HO} (s : Sub Z H) (np : H p = none) : Sub Z (upd H p o) := fun a u e => by
  obtain ⟨w, q⟩ := s.some e
  rw [upd_ne (ne_of_none q np)]; exact s a u e
theorem Sub.zn {p : Addr} (s : Sub Z H) (np : H p = none) : Z p = none := by
  cases e : Z p with
  | none => rfl
  | some o => obtain ⟨u, q⟩ := s.some e; rw [np] at q; cases q
theorem New.o1 {p : Addr} {o : HO} {k : Kd} {vs : List V} {ds : List D} {d : D} (s : Sub Z H) (np : H p = none) (hv : oview o = some (k, vs)) (hd : dview K d = some (k, ds)) (hs : FReps K Z vs ds) : New K Z H Z (upd H p o) (.ref p) (.ow .o1 d) [p] := by
  refine ⟨⟨fun a u e _ => by rw [upd_ne (ne_of_none e np)]; exact e, fun a m => .inr (by simp at m; subst m; exact np), Le.refl _, fun _ _ e => .inl e⟩, s.upd np, ⟨.ref p, rfl, .inr ⟨p, o, k, vs, ds, rfl, upd_same, hv, hd, hs, rfl⟩⟩, by simp, fun a m => ?_⟩
  simp at m; subst m; exact s.zn np
/-- a new object that is frozen at once -/
theorem New.fzo {p : Addr} {o : HO} {k : Kd} {vs : List V} {ds : List D} {d : D} (s : Sub Z H) (np : H p = none) (hv : oview o = some (k, vs)) (hd : dview K d = some (k, ds)) (hs : FReps K Z vs ds) : New K Z H (upd Z p o) (upd H p o) (.ref p) (.fz d) [] := by
  have le : Le Z (upd Z p o) := fun a u e => by rw [upd_ne (ne_of_none e (s.zn np))]; exact e
  refine ⟨⟨fun a u e _ => by rw [upd_ne (ne_of_none e np)]; exact e, fun a m => (by cases m), le, fun a u e => ?_⟩, fun a u e => ?_, ⟨.ref p, rfl, .node upd_same hv hd (hs.mono le), rfl⟩, by simp, fun a m => by cases m⟩
  · by_cases q : a = p
    · subst q; exact .inr (.inr np)
    · rw [upd_ne q] at e; exact .inl e
  · by_cases q : a = p
    · subst q; rw [upd_same] at e; cases e; exact .inl upd_same
    · rw [upd_ne q] at e
      rw [upd_ne q]
      exact s a u e
end
/-! ### operations by values -/
def Op1 (K : PySem.W.Frag) (r : V → Hp → VK → Prop) (op : Tg → D → Option Sl) : Prop := ∀ {Z H : Hp} {t : Tg} {d : D} {v : V} {fp : List Addr} {res : Sl} {Q : VK}, Sub Z H → Rep K Z H t v d fp → op t d = some res → (∀ Z' H' u fu, New K Z H Z' H' u res fu → Q u H') → r v H Q
def Op2 (K : PySem.W.Frag) (r : R2) (op : Tg → D → Tg → D → Option Sl) : Prop := ∀ {Z H : Hp} {t u : Tg} {d e : D} {v w : V} {fp fq : List Addr} {res : Sl} {Q : VK}, Sub Z H → Rep K Z H t v d fp → Rep K Z H u w e fq → op t d u e = some res → (∀ Z' H' z fz, New K Z H Z' H' z res fz → Q z H') → r v w H Q
def AllRep (K : PySem.W.Frag) (Z H : Hp) : List V → List (Tg × D) → Prop := Paired fun v x => ∃ fp, Rep K Z H x.1 v x.2 fp
def OpN (K : PySem.W.Frag) (r : List V → Hp → VK → Prop) (op : List (Tg × D) → Option Sl) : Prop := ∀ {Z H : Hp} {vs : List V} {xs : List (Tg × D)} {res : Sl} {Q : VK}, Sub Z H → AllRep K Z H vs xs → op xs = some res → (∀ Z' H' z fz, New K Z H Z' H' z res fz → Q z H') → r vs H Q
def k1 (op : Tg → D → Option Sl) (a : Sl) (ss : List Sl) : Ro (Sl × List Sl) := orS ((a.val ss).bind fun x => op x.1 x.2) ss
def k2 (op : Tg → D → Tg → D → Option Sl) (a b : Sl) (ss : List Sl) : Ro (Sl × List Sl) := orS ((a.val ss).bind fun x => (b.val ss).bind fun y => op x.1 x.2 y.1 y.2) ss
def kN (op : List (Tg × D) → Option Sl) (rs : List Sl) (ss : List Sl) : Ro (Sl × List Sl) := orS ((valL ss rs).bind op) ss
def f1 (op : Tg → D → Option Sl) (fa : FE) : FE := fun ss => (fa ss).bind fun p => k1 op p.1 p.2
def f2 (op : Tg → D → Tg → D → Option Sl) (fa fb : FE) : FE := fun ss => (fa ss).bind fun p => (fb p.2).bind fun q => k2 op p.1 q.1 q.2
def fN (op : List (Tg × D) → Option Sl) (fa : FA) : FE := fun ss => (fa ss).bind fun p => kN op p.1 p.2
section
variable {K : PySem.W.Frag} {E : EW} {σ : L2.St} {Z H Z' H' Z1 H1 Z2 H2 : Hp} {es es1 ts us : List Ent} {Q : VK} {fa fb : FE}
theorem Kon.some {o : Option Sl} {ss : List Sl} {F : List Addr} (k : KQ K E σ Z H F (orS o ss) Q) : ∃ r, o = some r ∧ KQ K E σ Z H F (.ok (r, ss)) Q := by
  cases o with
  | none => exact k.elim
  | some r => exact ⟨r, rfl, k⟩
theorem ref1 {r : V → Hp → VK → Prop} {op : Tg → D → Option Sl} (h : Op1 K r op) (q : RE K E (f1 op fa) σ H Q) : RE K E fa σ H fun x H1 => r x H1 Q := by
  obtain ⟨Z, es, s, hv, k⟩ := q
  refine RE.next (ts := []) (n := fun p => k1 op p.1 p.2) s hv (by rw [List.append_nil]; exact k) fun a Z1 H1 es1 v fp s1 hv1 k1 => ?_
  obtain ⟨r, hr, k2⟩ := Kon.some k1
  obtain ⟨⟨t, d⟩, h1, h2⟩ := Option.bind_eq_some_iff.mp hr
  obtain ⟨f, rp, _⟩ := s1.val (e := ⟨some v, a, fp⟩) (by simp) rfl h1
  exact h s1.sub rp h2 fun Z' H' u fu n => fin_new s1 hv1 k2 n
theorem ref2 {r : R2} {op : Tg → D → Tg → D → Option Sl} (h : Op2 K r op) (q : RE K E (f2 op fa fb) σ H Q) : RE K E fa σ H fun x H1 => RE K E fb σ H1 fun y H2 => r x y H2 Q := by
  obtain ⟨Z, es, s, hv, k⟩ := q
  refine RE.next (ts := []) (n := fun p => (fb p.2).bind fun q => k2 op p.1 q.1 q.2) s hv (by rw [List.append_nil]; exact k) fun a Z1 H1 es1 v fp s1 hv1 k1 => ?_
  refine RE.next (n := fun q => k2 op a q.1 q.2) s1 hv1 k1 fun b Z2 H2 es2 w fq s2 hv2 k2 => ?_
  obtain ⟨r, hr, k3⟩ := Kon.some k2
  obtain ⟨⟨t, d⟩, h1, h2⟩ := Option.bind_eq_some_iff.mp hr
  obtain ⟨⟨u, e⟩, h3, h4⟩ := Option.bind_eq_some_iff.mp h2
  obtain ⟨f, rp, _⟩ := s2.val (e := ⟨some v, a, fp⟩) (by simp) rfl h1
  obtain ⟨f', rp', _⟩ := s2.val (e := ⟨some w, b, fq⟩) (by simp) rfl h3
  exact h s2.sub rp rp' h4 fun Z' H' u fu n => fin_new s2 hv2 k3 n
theorem Sat.vals (s : Sat K Z H es ts) : ∀ {us : List Ent} {vs : List V} {xs : List (Tg × D)}, (∀ u ∈ us, u ∈ es ++ ts) → vsOf us = vs.map some → valL (ssOf es) (ssOf us) = some xs → AllRep K Z H vs xs
  | [], vs, xs, _, e, h => by
    cases vs with
    | nil => cases h; exact .nil
    | cons _ _ => cases e
  | u :: us, vs, xs, m, e, h => by
    cases vs with
    | nil => cases e
    | cons v vs =>
      simp only [List.map_cons, List.cons.injEq] at e
      obtain ⟨⟨t, d⟩, h1, h2⟩ := Option.bind_eq_some_iff.mp h
      obtain ⟨ys, h3, h4⟩ := Option.bind_eq_some_iff.mp h2
      cases h4
      obtain ⟨f, rp, _⟩ := s.val (m u List.mem_cons_self) e.1 h1
      exact .cons ⟨f, rp⟩ (Sat.vals s (fun z mz => m z (List.mem_cons_of_mem _ mz)) e.2 h3)
theorem refN {r : List V → Hp → VK → Prop} {op : List (Tg × D) → Option Sl} {ft : FA} (h : OpN K r op) (q : RE K E (fN op ft) σ H Q) : RA K E ft σ H fun xs H1 => r xs H1 Q := by
  obtain ⟨Z, es, s, hv, k⟩ := q
  refine RA.next (ts := []) (n := fun p => kN op p.1 p.2) s hv (by rw [List.append_nil]; exact k) fun Z1 H1 es1 us vs e1 s1 hv1 k1 => ?_
  obtain ⟨r, hr, k2⟩ := Kon.some k1
  obtain ⟨xs, h1, h2⟩ := Option.bind_eq_some_iff.mp hr
  exact h s1.sub (s1.vals (fun u m => by simp [m]) e1 h1) h2 fun Z' H' u fu n => fin_new s1 hv1 k2 n
end
section
variable {X : Cx} {E : EW} {e : Expr}
theorem pe_mono {t t' : TE} (p : PE X e t) (h : ∀ σ H Q, t' σ H Q → t σ H Q) : PE X e t' := ⟨fun pins s σ H Q I q => p.run pins s σ H Q I (h σ H Q q)⟩
theorem pt_mono {t t' : TT} (p : PT X e t) (h : ∀ σ H Q, t' σ H Q → t σ H Q) : PT X e t' := ⟨fun pins s σ H Q I q => p.run pins s σ H Q I (h σ H Q q)⟩
theorem pa_mono {es : List Expr} {t t' : TA} (p : PA X es t) (h : ∀ σ H Q, t' σ H Q → t σ H Q) : PA X es t' := ⟨fun pos pins s σ H Q I q => p.run pos pins s σ H Q I (h σ H Q q)⟩
theorem ps_mono {st : Stmt} {t t' : TS} (p : PS X st t) (h : ∀ D σ H, t' D σ H → t D σ H) : PS X st t' := ⟨fun pins s σ H D I q => p.run pins s σ H D I (h D σ H q)⟩
theorem pss_mono {st : List Stmt} {t t' : TS} (p : PSs X st t) (h : ∀ D σ H, t' D σ H → t D σ H) : PSs X st t' := ⟨fun pins s σ H D I q => p.run pins s σ H D I (h D σ H q)⟩
/-- a name -/
def fvar (i : Nat) : FE := fun ss => match ss[i]? with
  | some (.fz d) => .ok (.fz d, ss)
  | some (.ow _ _) => .ok (.al i, ss)
  | some (.al j) => .ok (.al j, ss)
  | _ => .stuck
theorem vs_at {es : List Ent} {σ : L2.St} {i : Nat} {u : Ent} {x : V} (hv : vsOf es = σ) (h : es[i]? = some u) (e : u.v = some x) : σ[i]? = some (some x) := by
  rw [← hv, List.getElem?_map, h, ← e]; rfl
/-- the end with a value that stands already -/
theorem fin_same {K : PySem.W.Frag} {σ : L2.St} {Z H : Hp} {es ts : List Ent} {Q : VK} {v : V} {r : Sl} (s : Sat K Z H es ts) (hv : vsOf es = σ) (k : KQ K E σ Z H (fpsOf (es ++ ts)) (.ok (r, ssOf es)) Q) (ok : EntOk K Z H es ⟨some v, r, []⟩) : Q v H := by
  refine k Z H es [⟨some v, r, []⟩] (Step.refl fun a m => ?_) ⟨s.sub, ?_, fun a m => ?_, fun e m => ?_⟩ hv rfl rfl v rfl
  · rcases fps_app.mp m with q | q
    · exact fps_app.mpr (.inl q)
    · simp at q
  · have := s.nd
    simp only [fpsOf, List.flatMap_append] at this ⊢
    simpa using (List.nodup_append.mp this).1
  · rcases fps_app.mp m with q | q
    · exact s.zf a (fps_app.mpr (.inl q))
    · simp at q
  · rcases List.mem_append.mp m with q | q
    · exact s.ok e (List.mem_append_left _ q)
    · obtain rfl := List.mem_singleton.mp q; exact ok
theorem fin0 {K : PySem.W.Frag} {σ : L2.St} {Z H : Hp} {es : List Ent} {Q : VK} {v : V} {r : Sl} (s : Sat K Z H es []) (hv : vsOf es = σ) (k : KQ K E σ Z H (fpsOf es) (.ok (r, ssOf es)) Q) (ok : EntOk K Z H es ⟨some v, r, []⟩) : Q v H :=
  fin_same s hv (by rw [List.append_nil]; exact k) ok
theorem re_var {K : PySem.W.Frag} {i : Nat} {σ : L2.St} {H : Hp} {Q : VK} (h : RE K E (fvar i) σ H Q) : tVar i σ H Q := by
  obtain ⟨Z, es, s, hv, k⟩ := h
  have go : ∀ u, es[i]? = some u → fvar i (ssOf es) = (match u.s with | .fz d => .ok (.fz d, ssOf es) | .ow _ _ => .ok (.al i, ssOf es) | .al j => .ok (.al j, ssOf es) | _ => .stuck) := fun u hu => by
    unfold fvar
    rw [show (ssOf es)[i]? = some u.s by rw [List.getElem?_map, hu]; rfl]
    cases u.s <;> rfl
  cases hu : es[i]? with
  | none =>
    unfold fvar at k
    rw [show (ssOf es)[i]? = none by rw [List.getElem?_map, hu]; rfl] at k
    exact k.elim
  | some u =>
    have ok := s.ok u (by rw [List.append_nil]; exact List.mem_of_getElem? hu)
    rw [go u hu] at k
    unfold EntOk at ok
    cases q : u.s with
    | un => rw [q] at k; exact k.elim
    | fz d =>
      rw [q] at k ok
      obtain ⟨x, h1, h2, h3⟩ := ok
      exact ⟨x, vs_at hv hu h1, fin0 (r := .fz d) s hv k ⟨x, rfl, h2, rfl⟩⟩
    | ow t d =>
      rw [q] at k ok
      obtain ⟨x, h1, h2⟩ := ok
      exact ⟨x, vs_at hv hu h1, fin0 (r := .al i) s hv k ⟨rfl, u, x, hu, h1, rfl⟩⟩
    | al j =>
      rw [q] at k ok
      obtain ⟨h0, w, x, h1, h2, h3⟩ := ok
      exact ⟨x, vs_at hv hu h3, fin0 (r := .al j) s hv k ⟨rfl, w, x, h1, h2, rfl⟩⟩
def fc (d : D) : FE := fun ss => .ok (.fz d, ss)
theorem re_c {K : PySem.W.Frag} {v : V} {d : D} {σ : L2.St} {H : Hp} {Q : VK} (l : Leaf K v d) (h : RE K E (fc d) σ H Q) : tC v σ H Q := by
  obtain ⟨Z, es, s, hv, k⟩ := h
  exact fin0 (r := .fz d) s hv k ⟨v, rfl, .leaf l, rfl⟩
def fnil : FA := fun ss => .ok ([], ss)
def fcons (fa : FE) (ft : FA) : FA := fun ss => (fa ss).bind fun p => (ft p.2).bind fun q => .ok (p.1 :: q.1, q.2)
theorem ra_nil {K : PySem.W.Frag} {σ : L2.St} {H : Hp} {Q : List V → Hp → Prop} (h : RA K E fnil σ H Q) : tNil σ H Q := by
  obtain ⟨Z, es, s, hv, k⟩ := h
  exact k Z H es [] (Step.refl fun a m => by simpa using m) s hv rfl rfl [] rfl
theorem ra_cons {K : PySem.W.Frag} {σ : L2.St} {H : Hp} {Q : List V → Hp → Prop} {fa : FE} {ft : FA} (h : RA K E (fcons fa ft) σ H Q) : tCons (RE K E fa) (RA K E ft) σ H Q := by
  obtain ⟨Z, es, s, hv, k⟩ := h
  refine RE.next (ts := []) (n := fun p => (ft p.2).bind fun q => .ok (p.1 :: q.1, q.2)) s hv (by rw [List.append_nil]; exact k) fun a Z1 H1 es1 v fp s1 hv1 k1 => ?_
  refine RA.next (n := fun q => .ok (a :: q.1, q.2)) s1 hv1 k1 fun Z2 H2 es2 us vs e2 s2 hv2 k2 => ?_
  exact k2 Z2 H2 es2 (⟨some v, a, fp⟩ :: us) (Step.refl fun a m => by simpa using m) (by simpa using s2) hv2 rfl rfl (v :: vs) (by simp [vsOf] at e2 ⊢; exact e2)
end
end Mi

/-! M3: operations on data, each held against the hand layer's reading. -/
namespace Mi
open PySem PySem.Spec PyProof.Rows L2 Rt
def scalarD : D → Bool
  | .non | .bl _ | .int _ | .str _ | .ty _ | .obj _ => true
  | _ => false
/-- a part that is handed on -/
def partSl (t : Tg) (d : D) : Option Sl := if t.flat then some (.fz d) else if scalarD d then some (.fz d) else none
section
variable {κ α : Type} [DecidableEq κ]
def getK (kvs : List (κ × α)) (k : κ) : Option α := (kvs.find? fun kv => decide (kv.1 = k)).map (·.2)
def putD (kvs : List (κ × α)) (k : κ) (v : α) : List (κ × α) := if (kvs.any fun kv => decide (kv.1 = k)) = true then kvs.map (fun kv => if kv.1 = k then (kv.1, v) else kv) else kvs ++ [(k, v)]
def dropD (kvs : List (κ × α)) (k : κ) : List (κ × α) := kvs.filter fun kv => decide (kv.1 ≠ k)
end
def D.key? : D → Option Key
  | .int i => some (.inl i)
  | .str x => some (.inr x)
  | _ => none
def keysOf : List D → Option (List Key)
  | [] => some []
  | d :: r => (d.key?).bind fun k => (keysOf r).bind fun ks => some (k :: ks)
def D.keyT? : D → Option (List Key)
  | .tup ds => keysOf ds
  | _ => none
section
variable {K : PySem.W.Frag} {Z H Z' H' : Hp} {t u : Tg} {v w : V} {fp fq : List Addr} {d e : D} {Q : VK}
theorem rep_int {i : Int} (s : Sub Z H) (h : Rep K Z H t v (.int i) fp) : v = .int i := by cases h.leaf_of s rfl; rfl
theorem rep_str {x : Str} (s : Sub Z H) (h : Rep K Z H t v (.str x) fp) : v = .str x := by cases h.leaf_of s rfl; rfl
theorem rep_bl {b : Bool} (s : Sub Z H) (h : Rep K Z H t v (.bl b) fp) : v = .bl b := by cases h.leaf_of s rfl; rfl
theorem rep_non (s : Sub Z H) (h : Rep K Z H t v .non fp) : v = .non := by cases h.leaf_of s rfl; rfl
theorem rep_ty {n : String} (s : Sub Z H) (h : Rep K Z H t v (.ty n) fp) : v = .ty n := by cases h.leaf_of s rfl; rfl
theorem rep_obj {x : Str} (s : Sub Z H) (h : Rep K Z H t v (.obj x) fp) : v = .ref (He.ga K x) := by cases h.leaf_of s rfl; rfl
theorem at_of {a : Addr} {o : HO} (s : Sub Z H) (n : ¬ lockable o) (h : Z a = some o ∨ H a = some o) : H a = some o := by
  rcases h with h | h
  · rcases s _ _ h with z | ⟨z, _⟩
    · exact z
    · exact (n z).elim
  · exact h
theorem rd_of {a : Addr} {o : HO} (s : Sub Z H) (h : Z a = some o ∨ H a = some o) : Rd H a o := h.elim (fun h => s.rd h) .inl
theorem rep_lst {ds : List D} (ht : t.flat = true) (s : Sub Z H) (h : Rep K Z H t v (.lst ds) fp) : ∃ a vs, v = .ref a ∧ H a = some (.lst vs) ∧ FReps K Z vs ds := by
  obtain ⟨_, _, _, a, vs, h1, h2, h3⟩ := h.flat ht s rfl
  refine ⟨a, vs, h1, ?_, h2⟩
  rcases h3 with ⟨o, h3, h4⟩ | q
  · rw [oview_lst h4] at h3; exact at_of s (fun z => z) h3
  · exact q.elim
theorem rep_tup {ds : List D} (ht : t.flat = true) (s : Sub Z H) (h : Rep K Z H t v (.tup ds) fp) : ∃ a vs, v = .ref a ∧ SqT K H a vs ∧ FReps K Z vs ds := by
  obtain ⟨_, _, _, a, vs, h1, h2, h3⟩ := h.flat ht s rfl
  refine ⟨a, vs, h1, ?_, h2⟩
  rcases h3 with ⟨o, h3, h4⟩ | q
  · rw [oview_tup h4] at h3; exact .inl (rd_of s h3)
  · exact sqT_wr q
theorem rep_dk {kvs : List (Key × D)} (ht : t.flat = true) (s : Sub Z H) (h : Rep K Z H t v (.dk kvs) fp) : ∃ a gs, v = .ref a ∧ Rd H a (.dK gs) ∧ gs.map (·.1) = kvs.map (·.1) ∧ FReps K Z (gs.map (·.2)) (kvs.map (·.2)) := by
  obtain ⟨_, _, _, a, vs, h1, h2, h3⟩ := h.flat ht s rfl
  rcases h3 with ⟨o, h3, h4⟩ | q
  · obtain ⟨gs, rfl, e1, rfl⟩ := oview_dk h4
    exact ⟨a, gs, h1, rd_of s h3, e1, h2⟩
  · exact q.elim
theorem rep_dt {kvs : List (List Key × D)} (ht : t.flat = true) (s : Sub Z H) (h : Rep K Z H t v (.dt kvs) fp) : ∃ a gs, v = .ref a ∧ Rd H a (.dT gs) ∧ gs.map (·.1) = kvs.map (·.1) ∧ FReps K Z (gs.map (·.2)) (kvs.map (·.2)) := by
  obtain ⟨_, _, _, a, vs, h1, h2, h3⟩ := h.flat ht s rfl
  rcases h3 with ⟨o, h3, h4⟩ | q
  · obtain ⟨gs, rfl, e1, rfl⟩ := oview_dt h4
    exact ⟨a, gs, h1, rd_of s h3, e1, h2⟩
  · exact q.elim
theorem rep_ins {c : Str} {fs : List (Str × D)} (ht : t.flat = true) (s : Sub Z H) (h : Rep K Z H t v (.ins c fs) fp) : ∃ a dx gs, v = .ref a ∧ H a = some (.ins (He.ga K c) dx gs) ∧ gs.map (·.1) = fs.map (·.1) ∧ FReps K Z (gs.map (·.2)) (fs.map (·.2)) := by
  obtain ⟨_, _, _, a, vs, h1, h2, h3⟩ := h.flat ht s rfl
  rcases h3 with ⟨o, h3, h4⟩ | q
  · obtain ⟨dx, gs, rfl, e1, rfl⟩ := oview_ins h4
    exact ⟨a, dx, gs, h1, at_of s (fun z => z) h3, e1, h2⟩
  · exact q.elim
/-- of whatever is owned: what can be read of it -/
theorem rep_lstR {ds : List D} (s : Sub Z H) (h : Rep K Z H t v (.lst ds) fp) : ∃ a vs, v = .ref a ∧ H a = some (.lst vs) ∧ FReps K (rdH H) vs ds := FRep.lst_of rdH_sub (h.rd s)
theorem rep_tupR {ds : List D} (s : Sub Z H) (h : Rep K Z H t v (.tup ds) fp) : ∃ a vs, v = .ref a ∧ SqT K H a vs ∧ FReps K (rdH H) vs ds := (h.rd s).tup_of
theorem rep_dkR {kvs : List (Key × D)} (s : Sub Z H) (h : Rep K Z H t v (.dk kvs) fp) : ∃ a gs, v = .ref a ∧ Rd H a (.dK gs) ∧ gs.map (·.1) = kvs.map (·.1) ∧ FReps K (rdH H) (gs.map (·.2)) (kvs.map (·.2)) := FRep.dk_of rdH_sub (h.rd s)
theorem rep_dtR {kvs : List (List Key × D)} (s : Sub Z H) (h : Rep K Z H t v (.dt kvs) fp) : ∃ a gs, v = .ref a ∧ Rd H a (.dT gs) ∧ gs.map (·.1) = kvs.map (·.1) ∧ FReps K (rdH H) (gs.map (·.2)) (kvs.map (·.2)) := FRep.dt_of rdH_sub (h.rd s)
theorem rep_insR {c : Str} {fs : List (Str × D)} (s : Sub Z H) (h : Rep K Z H t v (.ins c fs) fp) : ∃ a dx gs, v = .ref a ∧ H a = some (.ins (He.ga K c) dx gs) ∧ gs.map (·.1) = fs.map (·.1) ∧ FReps K (rdH H) (gs.map (·.2)) (fs.map (·.2)) := FRep.ins_of rdH_sub (h.rd s)
theorem rep_scr {xs : List Int} (s : Sub Z H) (h : Rep K Z H t v (.scr xs) fp) : ∃ a, v = .ref a ∧ SqL K H a (xs.map V.int) := FRep.scr_of rdH_sub (h.rd s)
theorem leaf_scalar {d : D} (h : scalarD d = true) : dview K d = none := by cases d <;> first | rfl | cases h
end
section
variable {K : PySem.W.Frag}
theorem nl {Z H : Hp} {Q : VK} {v : V} {d : D} (s : Sub Z H) (k : ∀ Z' H' u fu, New K Z H Z' H' u (.fz d) fu → Q u H') (l : Leaf K v d) : Q v H := k Z H v [] (New.leaf s l)
/-! ### numbers -/
def opI (f : Int → Int → Option D) (_ : Tg) (x : D) (_ : Tg) (y : D) : Option Sl := match x, y with
  | .int a, .int b => (f a b).map .fz
  | _, _ => none
theorem opI_of {f : Int → Int → Option D} {t u : Tg} {x y : D} {res : Sl} (h : opI f t x u y = some res) : ∃ a b d, x = .int a ∧ y = .int b ∧ f a b = some d ∧ res = .fz d := by
  unfold opI at h
  split at h
  · obtain ⟨d, h1, h2⟩ := Option.map_eq_some_iff.mp h
    exact ⟨_, _, d, rfl, rfl, h1, h2.symm⟩
  · cases h
theorem op2_I {C : Int → Int → Prop} {f : Int → Int → Int} {g : Int → Int → Option D} (hg : ∀ a b d, g a b = some d → C a b ∧ d = .int (f a b)) : Op2 K (rI C fun i j => .int (f i j)) (opI g) := by
  intro Z H t u x y v w fp fq res Q s h1 h2 h k
  obtain ⟨a, b, d, rfl, rfl, e, rfl⟩ := opI_of h
  obtain ⟨c, rfl⟩ := hg a b d e
  rw [rep_int s h1, rep_int s h2]
  exact ⟨a, b, rfl, rfl, c, nl s k (.int _)⟩
theorem op2_I0 {f : Int → Int → Int} : Op2 K (rI0 fun i j => .int (f i j)) (opI fun a b => some (.int (f a b))) := by
  intro Z H t u x y v w fp fq res Q s h1 h2 h k
  obtain ⟨a, b, d, rfl, rfl, e, rfl⟩ := opI_of h
  cases e
  rw [rep_int s h1, rep_int s h2]
  exact ⟨a, b, rfl, rfl, nl s k (.int _)⟩
theorem op2_B0 {f : Int → Int → Bool} : Op2 K (rI0 fun i j => .bl (f i j)) (opI fun a b => some (.bl (f a b))) := by
  intro Z H t u x y v w fp fq res Q s h1 h2 h k
  obtain ⟨a, b, d, rfl, rfl, e, rfl⟩ := opI_of h
  cases e
  rw [rep_int s h1, rep_int s h2]
  exact ⟨a, b, rfl, rfl, nl s k (.bl _)⟩
def opSub := opI fun a b => some (.int (a - b))
theorem op_sub_ok : Op2 K rSubI opSub := op2_I0
instance {i j : Int} : Decidable (CMulW i j) := inferInstanceAs (Decidable (_ < _))
instance {i j : Int} : Decidable (CDivZ i j) := inferInstanceAs (Decidable (_ ∧ _))
instance {i j : Int} : Decidable (CPow i j) := inferInstanceAs (Decidable (_ ∧ _ ∧ _))
def whenD (p : Prop) [Decidable p] (d : D) : Option D := if p then some d else none
theorem whenD_of {p : Prop} [Decidable p] {d e : D} (h : whenD p d = some e) : p ∧ e = d := by
  unfold whenD at h
  split at h
  · rename_i q; exact ⟨q, (Option.some.inj h).symm⟩
  · cases h
theorem whenD_pos {p : Prop} [Decidable p] {d : D} (h : p) : whenD p d = some d := if_pos h
def opFdiv := opI fun a b => whenD (CDivZ a b) (.int (a.fdiv b))
theorem op_fdiv_ok : Op2 K rFdivZ opFdiv := op2_I fun _ _ _ h => whenD_of h
def opMod := opI fun a b => whenD (b ≠ 0) (.int (a.fmod b))
theorem op_mod_ok : Op2 K rModZ opMod := op2_I fun _ _ _ h => whenD_of h
def opPow := opI fun a b => whenD (CPow a b) (.int (a ^ b.toNat))
theorem op_pow_ok : Op2 K rPowI opPow := op2_I fun _ _ _ h => whenD_of h
def opLt := opI fun a b => some (.bl (decide (a < b)))
def opLe := opI fun a b => some (.bl (decide (a ≤ b)))
def opGt := opI fun a b => some (.bl (decide (b < a)))
def opGe := opI fun a b => some (.bl (decide (b ≤ a)))
theorem op_lt_ok : Op2 K rLtI opLt := op2_B0
theorem op_le_ok : Op2 K rLeI opLe := op2_B0
theorem op_gt_ok : Op2 K rGtI opGt := op2_B0
theorem op_ge_ok : Op2 K rGeI opGe := op2_B0
/-! ### + -/
def opAdd (t : Tg) (x : D) (u : Tg) (y : D) : Option Sl := match x, y with
  | .int a, .int b => some (.fz (.int (a + b)))
  | .str a, .str b => if a.length + b.length ≤ sizeLine then some (.fz (.str (a ++ b))) else none
  | .lst xs, .lst ys => if (t.flat && u.flat) = true ∧ xs.length + ys.length ≤ sizeLine then some (.ow .o1 (.lst (xs ++ ys))) else none
  | _, _ => none
theorem op_add_ok : Op2 K (rAddU K) opAdd := by
  intro Z H t u x y v w fp fq res Q s h1 h2 h k
  unfold opAdd at h
  split at h
  · cases h
    rw [rep_int s h1, rep_int s h2]
    exact .inl ⟨_, _, rfl, rfl, nl s k (.int _)⟩
  · split at h
    · rename_i hl
      cases h
      rw [rep_str s h1, rep_str s h2]
      exact .inr (.inl ⟨_, _, rfl, rfl, hl, nl s k (.str _)⟩)
    · cases h
  · split at h
    · rename_i hl
      cases h
      obtain ⟨hf, hl⟩ := hl
      rw [Bool.and_eq_true] at hf
      obtain ⟨a, vs, rfl, ha, hvs⟩ := rep_lst hf.1 s h1
      obtain ⟨b, ws, rfl, hb, hws⟩ := rep_lst hf.2 s h2
      refine .inr (.inr (.inl ⟨a, b, vs, ws, rfl, rfl, ha, hb, by rw [hvs.len, hws.len]; exact hl, fun p np => ?_⟩))
      exact k _ _ _ _ (New.o1 s np rfl rfl (hvs.app hws))
    · cases h
  · cases h
/-! ### * -/
def opMul (t : Tg) (x : D) (_ : Tg) (y : D) : Option Sl := match x, y with
  | .int a, .int b => if CMulW a b then some (.fz (.int (a * b))) else none
  | .lst xs, .int k => if t.flat = true ∧ (-(2 ^ 63) ≤ k ∧ k < 2 ^ 63) ∧ xs.length * k.toNat ≤ sizeLine then some (.ow .o1 (.lst (List.replicate k.toNat xs).flatten)) else none
  | _, _ => none
theorem FReps.repl {Z : Hp} {vs : List V} {ds : List D} (h : FReps K Z vs ds) : ∀ n : Nat, FReps K Z (List.replicate n vs).flatten (List.replicate n ds).flatten
  | 0 => .nil
  | n + 1 => by rw [List.replicate_succ, List.replicate_succ, List.flatten_cons, List.flatten_cons]; exact h.app (FReps.repl h n)
theorem op_mul_ok : Op2 K rMulU opMul := by
  intro Z H t u x y v w fp fq res Q s h1 h2 h k
  unfold opMul at h
  split at h
  · split at h
    · rename_i hc
      cases h
      rw [rep_int s h1, rep_int s h2]
      exact .inl ⟨_, _, rfl, rfl, hc, nl s k (.int _)⟩
    · cases h
  · split at h
    · rename_i hl
      cases h
      obtain ⟨hf, ⟨hl1, hl2⟩, hl⟩ := hl
      obtain ⟨a, vs, rfl, ha, hvs⟩ := rep_lst hf s h1
      rw [rep_int s h2]
      refine .inr ⟨a, _, vs, rfl, rfl, ha, hl1, hl2, by rw [hvs.len]; exact hl, fun p np => ?_⟩
      exact k _ _ _ _ (New.o1 s np rfl rfl (hvs.repl _))
    · cases h
  · cases h
/-! ### ==, is -/
mutual
def toPD : D → Option PyData
  | .non => some .none
  | .bl b => some (.bool b)
  | .int i => some (.int i)
  | .str x => some (.str x)
  | .lst xs => (toPDs xs).map .list
  | .tup xs => (toPDs xs).map .tuple
  | _ => none
def toPDs : List D → Option (List PyData)
  | [] => some []
  | d :: r => (toPD d).bind fun p => (toPDs r).bind fun ps => some (p :: ps)
end
mutual
theorem dp_of {H : Hp} : ∀ {d : D} {p : PyData} {v : V}, FRep K (rdH H) v d → toPD d = some p → Dp K H v p
  | .non, _, _, h, e => by cases e; cases h.leaf_of (d := .non) rfl; exact .non
  | .bl b, _, _, h, e => by cases e; cases h.leaf_of (d := .bl b) rfl; exact .bl _
  | .int i, _, _, h, e => by cases e; cases h.leaf_of (d := .int i) rfl; exact .int _
  | .str x, _, _, h, e => by cases e; cases h.leaf_of (d := .str x) rfl; exact .str _
  | .lst xs, _, _, h, e => by
    obtain ⟨ps, e1, rfl⟩ := Option.map_eq_some_iff.mp e
    obtain ⟨a, vs, rfl, ha, hs⟩ := FRep.lst_of rdH_sub h
    exact .lst (.of ha) (dps_of hs e1)
  | .tup xs, _, _, h, e => by
    obtain ⟨ps, e1, rfl⟩ := Option.map_eq_some_iff.mp e
    obtain ⟨a, vs, rfl, ha, hs⟩ := h.tup_of
    exact .tup ha (dps_of hs e1)
  | .ty _, _, _, _, e => by cases e
  | .obj _, _, _, _, e => by cases e
  | .dk _, _, _, _, e => by cases e
  | .dt _, _, _, _, e => by cases e
  | .ins _ _, _, _, _, e => by cases e
  | .scr _, _, _, _, e => by cases e
theorem dps_of {H : Hp} : ∀ {ds : List D} {ps : List PyData} {vs : List V}, FReps K (rdH H) vs ds → toPDs ds = some ps → DpAll K H vs ps
  | [], _, _, .nil, e => by cases e; exact .nil
  | d :: r, _, _, .cons h t, e => by
    obtain ⟨p, e1, e2⟩ := Option.bind_eq_some_iff.mp e
    obtain ⟨ps, e3, e4⟩ := Option.bind_eq_some_iff.mp e2
    cases e4
    exact .cons (dp_of h e1) (dps_of t e3)
end
def eqD (x y : D) : Option Bool := match x, y with
  | .int a, .int b => some (decide (a = b))
  | .str a, .str b => some (decide (a = b))
  | x, y => (toPD x).bind fun a => (toPD y).bind fun b => if (SeqAt.shaped a && SeqAt.shaped b) = true then some (PyData.eqv a b) else none
def opEq (_ : Tg) (x : D) (_ : Tg) (y : D) : Option Sl := (eqD x y).map fun b => .fz (.bl b)
def opNe (_ : Tg) (x : D) (_ : Tg) (y : D) : Option Sl := (eqD x y).map fun b => .fz (.bl (!b))
theorem eqD_of {x y : D} {b : Bool} (h : eqD x y = some b) : (∃ i j, x = .int i ∧ y = .int j ∧ b = decide (i = j)) ∨ (∃ i j, x = .str i ∧ y = .str j ∧ b = decide (i = j)) ∨
    ∃ p q, toPD x = some p ∧ toPD y = some q ∧ SeqAt.shaped p = true ∧ SeqAt.shaped q = true ∧ b = PyData.eqv p q := by
  unfold eqD at h
  split at h
  · exact .inl ⟨_, _, rfl, rfl, (Option.some.inj h).symm⟩
  · exact .inr (.inl ⟨_, _, rfl, rfl, (Option.some.inj h).symm⟩)
  · obtain ⟨p, e1, e2⟩ := Option.bind_eq_some_iff.mp h
    obtain ⟨q, e3, e4⟩ := Option.bind_eq_some_iff.mp e2
    split at e4
    · rename_i hs
      rw [Bool.and_eq_true] at hs
      exact .inr (.inr ⟨p, q, e1, e3, hs.1, hs.2, (Option.some.inj e4).symm⟩)
    · cases e4
theorem op_eq_ok : Op2 K (rEqU K) opEq := by
  intro Z H t u x y v w fp fq res Q s h1 h2 h k
  obtain ⟨b, e, rfl⟩ := Option.map_eq_some_iff.mp h
  have kk := nl s k (.bl b)
  rcases eqD_of e with ⟨i, j, rfl, rfl, rfl⟩ | ⟨i, j, rfl, rfl, rfl⟩ | ⟨p, q, e1, e2, s1, s2, rfl⟩
  · rw [rep_int s h1, rep_int s h2]
    exact .inl ⟨rfl, by rw [dI]; exact kk⟩
  · rw [rep_str s h1, rep_str s h2]
    exact .inl ⟨rfl, by rw [dS]; exact kk⟩
  · exact .inr ⟨p, q, dp_of (h1.rd s) e1, dp_of (h2.rd s) e2, s1, s2, kk⟩
theorem op_ne_ok : Op2 K (rNeU K) opNe := by
  intro Z H t u x y v w fp fq res Q s h1 h2 h k
  obtain ⟨b, e, rfl⟩ := Option.map_eq_some_iff.mp h
  have kk := nl s k (.bl (!b))
  rcases eqD_of e with ⟨i, j, rfl, rfl, rfl⟩ | ⟨i, j, rfl, rfl, rfl⟩ | ⟨p, q, e1, e2, s1, s2, rfl⟩
  · rw [rep_int s h1, rep_int s h2]
    exact .inl ⟨rfl, by rw [dI]; exact kk⟩
  · rw [rep_str s h1, rep_str s h2]
    exact .inl ⟨rfl, by rw [dS]; exact kk⟩
  · exact .inr ⟨p, q, dp_of (h1.rd s) e1, dp_of (h2.rd s) e2, s1, s2, kk⟩
def isNonD : D → Bool
  | .non => true
  | _ => false
def opIs (_ : Tg) (x : D) (_ : Tg) (y : D) : Option Sl := match y with
  | .non => some (.fz (.bl (isNonD x)))
  | _ => none
def opIsNot (_ : Tg) (x : D) (_ : Tg) (y : D) : Option Sl := match y with
  | .non => some (.fz (.bl (!isNonD x)))
  | _ => none
theorem non_of {H : Hp} {v : V} {d : D} (h : FRep K H v d) : decide (v = .non) = isNonD d := by
  cases h with
  | leaf l => cases l <;> rfl
  | node _ _ h3 _ => cases d <;> first | rfl | cases h3
  | wr _ h3 _ => cases d <;> first | rfl | cases h3
theorem op_is_ok : Op2 K rIsN0 opIs := by
  intro Z H t u x y v w fp fq res Q s h1 h2 h k
  unfold opIs at h
  split at h
  · cases h
    exact ⟨rep_non s h2, by rw [non_of (h1.rd s)]; exact nl s k (.bl _)⟩
  · cases h
theorem op_isnot_ok : Op2 K rNotN0 opIsNot := by
  intro Z H t u x y v w fp fq res Q s h1 h2 h k
  unfold opIsNot at h
  split at h
  · cases h
    exact ⟨rep_non s h2, by rw [non_of (h1.rd s)]; exact nl s k (.bl _)⟩
  · cases h
/-! ### subscripts -/
theorem part_of {Z H : Hp} {Q : VK} {t : Tg} {d : D} {v : V} {res : Sl} (s : Sub Z H) (h : partSl t d = some res) (h1 : t.flat = true → FRep K Z v d) (h2 : FRep K (rdH H) v d) (k : ∀ Z' H' u fu, New K Z H Z' H' u res fu → Q u H') : Q v H := by
  unfold partSl at h
  split at h
  · rename_i hf; cases h; exact k Z H v [] (New.fz s (h1 hf))
  · split at h
    · rename_i hs; cases h; exact k Z H v [] (New.leaf s (h2.leaf_of (leaf_scalar hs)))
    · cases h
theorem getK_rel {κ : Type} [DecidableEq κ] {Z : Hp} : ∀ {gs : List (κ × V)} {kvs : List (κ × D)} {k : κ}, gs.map (·.1) = kvs.map (·.1) → FReps K Z (gs.map (·.2)) (kvs.map (·.2)) →
    (valV gs k = none ∧ getK kvs k = none) ∨ ∃ v d, valV gs k = some v ∧ getK kvs k = some d ∧ FRep K Z v d
  | [], [], k, _, _ => .inl ⟨rfl, rfl⟩
  | (a, v) :: gs, (b, d) :: kvs, k, e, h => by
    simp only [List.map_cons, List.cons.injEq] at e h
    obtain ⟨rfl, e⟩ := e
    cases h with
    | cons r t =>
      by_cases q : a = k
      · exact .inr ⟨v, d, valV_pos q, by simp [getK, List.find?_cons, q], r⟩
      · rw [valV_neg (p := (a, v)) q, show getK ((a, d) :: kvs) k = getK kvs k by simp [getK, List.find?_cons, q]]
        exact getK_rel e t
  | [], _ :: _, _, e, _ => by cases e
  | _ :: _, [], _, e, _ => by cases e
theorem kV_of {Z H : Hp} {u : Tg} {w : V} {e : D} {fq : List Addr} {k : Key} (s : Sub Z H) (h2 : Rep K Z H u w e fq) (h : e.key? = some k) : w = kV k := by
  cases e <;> cases h
  · exact rep_int s h2
  · exact rep_str s h2
theorem keys_of {Z : Hp} : ∀ {ds : List D} {vs : List V} {ks : List Key}, FReps K Z vs ds → keysOf ds = some ks → vs = ks.map kV
  | [], _, _, .nil, e => by cases e; rfl
  | d :: r, _, _, .cons h t, e => by
    obtain ⟨k, e1, e2⟩ := Option.bind_eq_some_iff.mp e
    obtain ⟨ks, e3, e4⟩ := Option.bind_eq_some_iff.mp e2
    cases e4
    rw [keys_of t e3]
    cases d <;> cases e1
    · cases h.leaf_of (d := .int _) rfl; rfl
    · cases h.leaf_of (d := .str _) rfl; rfl
def opIx (t : Tg) (x : D) (_ : Tg) (y : D) : Option Sl := match x, y with
  | .lst xs, .int i => (atI xs i).bind (partSl t)
  | .tup xs, .int i => (atI xs i).bind (partSl t)
  | .str z, .int i => if z.length ≤ sizeLine then (atI z.cps.toList i).map fun c => .fz (.str ⟨#[c]⟩) else none
  | .dk kvs, y => y.key?.bind fun k => (getK kvs k).bind (partSl t)
  | _, _ => none
theorem atI_rel {Z : Hp} {vs : List V} {ds : List D} {i : Int} {d : D} (h : FReps K Z vs ds) (e : atI ds i = some d) : ∃ v, atI vs i = some v ∧ FRep K Z v d := by
  unfold atI at e ⊢
  rw [h.len]
  obtain ⟨j, e1, e2⟩ := Option.bind_eq_some_iff.mp e
  obtain ⟨v, e3, e4⟩ := h.get e2
  exact ⟨v, by rw [e1]; exact e3, e4⟩
theorem op_ix_ok : Op2 K (rIxU K) opIx := by
  intro Z H t u x y v w fp fq res Q s h1 h2 h k
  unfold opIx at h
  split at h
  · obtain ⟨d, e1, e2⟩ := Option.bind_eq_some_iff.mp h
    obtain ⟨a, vs, rfl, ha, hs⟩ := rep_lstR s h1
    obtain ⟨x, e3, e4⟩ := atI_rel hs e1
    rw [rep_int s h2]
    refine .inl (.inl ⟨a, vs, _, x, rfl, rfl, .of ha, e3, part_of s e2 (fun hf => ?_) e4 k⟩)
    obtain ⟨b, ws, e5, hb, hw⟩ := rep_lst hf s h1
    cases e5; rw [ha] at hb; cases hb
    obtain ⟨y, e6, e7⟩ := atI_rel hw e1
    rw [e3] at e6; cases e6; exact e7
  · obtain ⟨d, e1, e2⟩ := Option.bind_eq_some_iff.mp h
    rw [rep_int s h2]
    by_cases hf : t.flat = true
    · obtain ⟨b, ws, rfl, hb, hw⟩ := rep_tup hf s h1
      obtain ⟨y, e6, e7⟩ := atI_rel hw e1
      exact .inl (.inr (.inl ⟨b, ws, _, y, rfl, rfl, hb, e6, part_of s e2 (fun _ => e7) (e7.rd s) k⟩))
    · obtain ⟨b, ws, rfl, hb, hw⟩ := rep_tupR s h1
      obtain ⟨y, e6, e7⟩ := atI_rel hw e1
      exact .inl (.inr (.inl ⟨b, ws, _, y, rfl, rfl, hb, e6, part_of s e2 (fun z => (hf z).elim) e7 k⟩))
  · split at h
    · rename_i hl
      obtain ⟨c, e1, rfl⟩ := Option.map_eq_some_iff.mp h
      rw [rep_str s h1, rep_int s h2]
      exact .inl (.inr (.inr ⟨_, _, c, rfl, rfl, hl, e1, nl s k (.str _)⟩))
    · cases h
  · obtain ⟨q, e1, e2⟩ := Option.bind_eq_some_iff.mp h
    obtain ⟨d, e3, e4⟩ := Option.bind_eq_some_iff.mp e2
    rw [kV_of s h2 e1]
    by_cases hf : t.flat = true
    · obtain ⟨a, gs, rfl, ha, hk, hs⟩ := rep_dk hf s h1
      rcases getK_rel (k := q) hk hs with ⟨_, z⟩ | ⟨x, d', e5, e6, e7⟩
      · rw [z] at e3; cases e3
      · rw [e3] at e6; cases e6
        exact .inr ⟨a, x, rfl, .inl ⟨gs, q, ha, rfl, e5.symm⟩, part_of s e4 (fun _ => e7) (e7.rd s) k⟩
    · obtain ⟨a, gs, rfl, ha, hk, hs⟩ := rep_dkR s h1
      rcases getK_rel (k := q) hk hs with ⟨_, z⟩ | ⟨x, d', e5, e6, e7⟩
      · rw [z] at e3; cases e3
      · rw [e3] at e6; cases e6
        exact .inr ⟨a, x, rfl, .inl ⟨gs, q, ha, rfl, e5.symm⟩, part_of s e4 (fun z => (hf z).elim) e7 k⟩
  · cases h
end
end Mi

/-! M4: more operations; tests; displays; attributes; isinstance; slices. -/
namespace Mi
open PySem PySem.Spec PyProof.Rows L2 Rt
/-! ### kinds -/
inductive Bt where
  | non | bool | int | str | tuple | list | dict
  deriving DecidableEq
def Bt.name : Bt → String
  | .non => "NoneType" | .bool => "bool" | .int => "int" | .str => "str" | .tuple => "tuple" | .list => "list" | .dict => "dict"
def Bt.of (n : String) : Option Bt := if n = "int" then some .int else if n = "bool" then some .bool else if n = "str" then some .str else if n = "tuple" then some .tuple else if n = "list" then some .list else if n = "dict" then some .dict else none
def Bt.all : List Bt := [.non, .bool, .int, .str, .tuple, .list, .dict]
theorem Bt.of_name {n : String} {b : Bt} (h : Bt.of n = some b) : n = b.name := by
  unfold Bt.of at h
  repeat (split at h; · rename_i e; cases h; exact e)
  cases h
def Bt.isi (a b : Bt) : Bool := decide (a = b) || (decide (a = .bool) && decide (b = .int))
def kindD : D → Option (Bt ⊕ Str)
  | .non => some (.inl .non) | .bl _ => some (.inl .bool) | .int _ => some (.inl .int) | .str _ => some (.inl .str) | .tup _ => some (.inl .tuple)
  | .lst _ => some (.inl .list) | .scr _ => some (.inl .list) | .dk _ => some (.inl .dict)
  | .ins c _ => some (.inr c)
  | _ => none
theorem kitB_all : (Bt.all.all fun a => Bt.all.all fun b => decide (b = .non) || decide (kitB a.name b.name = some (a.isi b))) = true := by decide +kernel
theorem Bt.mem (a : Bt) : a ∈ Bt.all := by cases a <;> decide
theorem kitB_of (a b : Bt) (h : b ≠ .non) : kitB a.name b.name = some (a.isi b) := by
  have := List.all_eq_true.mp (List.all_eq_true.mp kitB_all a a.mem) b b.mem
  simpa [h] using this
/-- the facts of one's own classes -/
structure ClsOk (K : PySem.W.Frag) (cls : List Str) : Prop where
  ty : ∀ c ∈ cls, ∀ (H : Hp) (a dx : Addr) (fs : List (Str × V)), H a = some (.ins (He.ga K c) dx fs) → TyX K H (.ref a) (.ref (He.ga K c))
  bc : ∀ c ∈ cls, ∀ b ∈ Bt.all, PySem.W.kitOne K (.type b.name) (.ref (He.ga K c)) = some false
  cb : ∀ c ∈ cls, ∀ b ∈ Bt.all, b ≠ .non → PySem.W.kitOne K (.ref (He.ga K c)) (.type b.name) = some false
  cc : ∀ c ∈ cls, ∀ e ∈ cls, PySem.W.kitOne K (.ref (He.ga K c)) (.ref (He.ga K e)) = some (decide (c = e))
def isiOne (cls : List Str) : Bt ⊕ Str → D → Option Bool
  | .inl a, .ty n => (Bt.of n).map fun b => a.isi b
  | .inl _, .obj c => if c ∈ cls then some false else none
  | .inr c, .ty n => if c ∈ cls then (Bt.of n).map fun _ => false else none
  | .inr c, .obj e => if c ∈ cls ∧ e ∈ cls then some (decide (c = e)) else none
  | _, _ => none
def isiAny (cls : List Str) (k : Bt ⊕ Str) : List D → Option Bool
  | [] => some false
  | d :: r => (isiOne cls k d).bind fun b => (isiAny cls k r).bind fun c => some (b || c)
def kindV (K : PySem.W.Frag) : Bt ⊕ Str → Value
  | .inl b => .type b.name
  | .inr c => .ref (He.ga K c)
theorem of_ne {n : String} {b : Bt} (h : Bt.of n = some b) : b ≠ .non := by
  unfold Bt.of at h
  repeat (split at h; · cases h; intro z; cases z)
  cases h
section
variable {K : PySem.W.Frag} {cls : List Str} {Z H : Hp} {t : Tg} {v : V} {fp : List Addr} {d : D}
theorem kind_of (C : ClsOk K cls) {k : Bt ⊕ Str} (s : Sub Z H) (h : Rep K Z H t v d fp) (e : kindD d = some k) (hc : ∀ c, k = .inr c → c ∈ cls) : TyX K H v (kindV K k) := by
  unfold kindD at e
  split at e <;> cases e
  · rw [rep_non s h]; exact .base .non
  · rw [rep_bl s h]; exact .base (.bl _)
  · rw [rep_int s h]; exact .base (.int _)
  · rw [rep_str s h]; exact .base (.str _)
  · obtain ⟨a, vs, rfl, q, _⟩ := rep_tupR s h
    rcases q with (q | ⟨o, q⟩) | ⟨o, its, n, h1, h2, _⟩
    · exact .base (.tup q)
    · exact .fTuple q
    · exact .kTuple h1 h2
  · obtain ⟨a, vs, rfl, q, _⟩ := rep_lstR s h
    exact .base (.lst q)
  · obtain ⟨a, rfl, q⟩ := rep_scr s h
    rcases q with (q | ⟨o, q⟩) | ⟨o, its, n, h1, h2, _⟩
    · exact .base (.lst q)
    · exact .base (.frz q)
    · exact .kList h1 h2
  · obtain ⟨a, gs, rfl, q, _⟩ := rep_dkR s h
    rcases q with q | ⟨o, q⟩
    · exact .base (.dK q)
    · exact .fDict q
  · rename_i c fs
    obtain ⟨a, dx, gs, rfl, q, _⟩ := rep_insR s h
    exact C.ty c (hc c rfl) _ _ _ _ q
theorem isiOne_of (C : ClsOk K cls) {k : Bt ⊕ Str} {e : D} {b : Bool} (h : isiOne cls k e = some b) : (∃ u w, (∀ x, FRep K (rdH H) x e → x = w ∧ ClsV w u) ∧ PySem.W.kitOne K (kindV K k) u = some b) ∧ ∀ c, k = .inr c → c ∈ cls := by
  unfold isiOne at h
  split at h
  · obtain ⟨b', e1, rfl⟩ := Option.map_eq_some_iff.mp h
    rename_i a n
    refine ⟨⟨.type n, .ty n, fun x q => ?_, ?_⟩, fun c z => by cases z⟩
    · cases q.leaf_of (d := .ty n) rfl; exact ⟨rfl, .ty n⟩
    · rw [Bt.of_name e1]; exact kit_ty (kitB_of a b' (of_ne e1))
  · split at h
    · rename_i hc; cases h
      rename_i a c
      refine ⟨⟨.ref (He.ga K c), .ref (He.ga K c), fun x q => ?_, C.bc c hc a a.mem⟩, fun c z => by cases z⟩
      cases q.leaf_of (d := .obj c) rfl; exact ⟨rfl, .own _⟩
    · cases h
  · split at h
    · rename_i hc
      obtain ⟨b', e1, rfl⟩ := Option.map_eq_some_iff.mp h
      rename_i c n
      refine ⟨⟨.type n, .ty n, fun x q => ?_, ?_⟩, fun c z => by cases z; exact hc⟩
      · cases q.leaf_of (d := .ty n) rfl; exact ⟨rfl, .ty n⟩
      · rw [Bt.of_name e1]; exact C.cb c hc b' b'.mem (of_ne e1)
    · cases h
  · split at h
    · rename_i hc; cases h
      rename_i c e
      refine ⟨⟨.ref (He.ga K e), .ref (He.ga K e), fun x q => ?_, C.cc c hc.1 e hc.2⟩, fun c z => by cases z; exact hc.1⟩
      cases q.leaf_of (d := .obj e) rfl; exact ⟨rfl, .own _⟩
    · cases h
  · cases h
theorem isiAny_of (C : ClsOk K cls) {k : Bt ⊕ Str} : ∀ {es : List D} {b : Bool} {vs : List V}, isiAny cls k es = some b → FReps K (rdH H) vs es → (∃ us, Paired ClsV vs us ∧ PySem.W.kitAny K (kindV K k) us = some b) ∧ (es ≠ [] → ∀ c, k = .inr c → c ∈ cls)
  | [], _, _, h, .nil => ⟨⟨[], .nil, h⟩, fun ne => absurd rfl ne⟩
  | e :: r, b, _, h, .cons (v := x) (vs := xs) q t => by
    obtain ⟨b1, h1, h2⟩ := Option.bind_eq_some_iff.mp h
    obtain ⟨b2, h3, h4⟩ := Option.bind_eq_some_iff.mp h2
    cases h4
    obtain ⟨⟨u, w, hw, hk⟩, hc⟩ := isiOne_of (H := H) C h1
    obtain ⟨rfl, cv⟩ := hw x q
    obtain ⟨⟨us, p, hk2⟩, _⟩ := isiAny_of C h3 t
    refine ⟨⟨u :: us, .cons cv p, kitAny_cons hk (fun z => ?_) (fun z => ?_)⟩, fun _ => hc⟩
    · subst z; exact hk2
    · subst z; rfl
def opIsi (cls : List Str) : List (Tg × D) → Option Sl
  | [(_, x), (u, c)] => (kindD x).bind fun k => match c with
    | .tup (e :: es) => if u.flat then (isiAny cls k (e :: es)).map fun b => .fz (.bl b) else none
    | c => (isiOne cls k c).map fun b => .fz (.bl b)
  | _ => none
def rIsiW (K : PySem.W.Frag) : List V → Hp → VK → Prop := fun xs H Q => rIsiU K xs H Q ∨ rIsiK K xs H Q
theorem call_isiW {X : Cx} : CallR X (.builtin "isinstance") (rIsiW X.K) := call_isiU.or call_isiK
theorem op_isi_ok (C : ClsOk K cls) : OpN K (rIsiW K) (opIsi cls) := by
  intro Z H vs xs res Q s hs h k
  unfold opIsi at h
  split at h
  · rename_i t x u c
    obtain ⟨kd, e1, e2⟩ := Option.bind_eq_some_iff.mp h
    cases hs with
    | cons h1 hs =>
      cases hs with
      | cons h2 hs =>
        cases hs
        rename_i v1 v2
        obtain ⟨f1, h1⟩ := h1
        obtain ⟨f2, h2⟩ := h2
        split at e2
        · rename_i e es
          split at e2
          · rename_i hf
            obtain ⟨b, e3, rfl⟩ := Option.map_eq_some_iff.mp e2
            obtain ⟨Z1, s1, r1, a, ws, rfl, fr, q⟩ := h2.flat hf s rfl
            obtain ⟨⟨us, p, hk⟩, hc⟩ := isiAny_of C e3 (fr.rd s)
            have ty := kind_of C s h1 e1 (hc (by simp))
            rcases q with ⟨o, q, q2⟩ | (q | ⟨o, q⟩) | ⟨o, its, n, q1, q2, q3, _, q4⟩
            · rw [oview_tup q2] at q
              have q' : H a = some (.tup ws) := at_of s (fun z => z) q
              exact .inl (.inr ⟨_, a, ws, _, us, b, rfl, q', p, ty, hk, nl s k (.bl _)⟩)
            · cases q
            · cases q
            · refine .inr ⟨_, a, o.dict, its.toList, n, o.slots, _, b, rfl, ?_, ty, by rw [ClsV.all p q4]; exact hk, nl s k (.bl _)⟩
              rw [q1]
              obtain ⟨c1, c2, c3, c4⟩ := o
              dsimp only at q2 q3 ⊢
              subst q2 q3
              rfl
          · cases e2
        · obtain ⟨b, e3, rfl⟩ := Option.map_eq_some_iff.mp e2
          obtain ⟨⟨w, y, hw, hk⟩, hc⟩ := isiOne_of (H := H) C e3
          obtain ⟨rfl, cv⟩ := hw _ (h2.rd s)
          exact .inl (.inl ⟨_, _, _, w, b, rfl, cv, kind_of C s h1 e1 hc, hk, nl s k (.bl _)⟩)
  · cases h
end
end Mi

/-! M5: freezing; parts, displays, tests, fields, slices. -/
namespace Mi
open PySem PySem.Spec PyProof.Rows L2 Rt
def Sl.frz : Sl → Sl
  | .ow _ d => .fz d
  | s => s
def Ent.frz (e : Ent) : Ent := ⟨e.v, e.s.frz, []⟩
def Fzd (e e' : Ent) : Prop := e' = e ∨ e' = e.frz
section
variable {K : PySem.W.Frag} {E : EW} {σ : L2.St} {Z H Z' H' : Hp} {es ts us es' ts' : List Ent} {Q : VK}
theorem Fzd.refl : ∀ l : List Ent, Paired Fzd l l
  | [] => .nil
  | _ :: r => .cons (.inl rfl) (Fzd.refl r)
theorem Fzd.all : ∀ l : List Ent, Paired Fzd l (l.map Ent.frz)
  | [] => .nil
  | _ :: r => .cons (.inr rfl) (Fzd.all r)
theorem Fzd.app : ∀ {a a' b b' : List Ent}, Paired Fzd a a' → Paired Fzd b b' → Paired Fzd (a ++ b) (a' ++ b')
  | _, _, _, _, .nil, h => h
  | _, _, _, _, .cons r t, h => .cons r (Fzd.app t h)
theorem Fzd.modAt : ∀ (l : List Ent) (i : Nat), Paired Fzd l (l.modify i Ent.frz)
  | [], i => by rw [List.modify_nil]; exact .nil
  | _ :: r, 0 => .cons (.inr rfl) (Fzd.refl r)
  | _ :: r, i + 1 => .cons (.inl rfl) (Fzd.modAt r i)
theorem Fzd.sub : ∀ {l l' : List Ent}, Paired Fzd l l' → (fpsOf l').Sublist (fpsOf l)
  | _, _, .nil => .slnil
  | _, _, .cons (a := e) (b := e') (l₁ := r) (l₂ := r') h t => by
    have ih := Fzd.sub t
    show (e'.fp ++ fpsOf r').Sublist (e.fp ++ fpsOf r)
    rcases h with rfl | rfl
    · exact List.Sublist.append_left ih _
    · show ([] ++ fpsOf r').Sublist _
      exact List.Sublist.trans ih (List.sublist_append_right _ _)
theorem Fzd.vs : ∀ {l l' : List Ent}, Paired Fzd l l' → vsOf l' = vsOf l
  | _, _, .nil => rfl
  | _, _, .cons h t => by
    simp only [List.map_cons, List.cons.injEq]
    exact ⟨by rcases h with rfl | rfl <;> rfl, Fzd.vs t⟩
theorem Fzd.mem : ∀ {l l' : List Ent}, Paired Fzd l l' → ∀ e' ∈ l', ∃ e ∈ l, Fzd e e'
  | _, _, .nil, _, m => by cases m
  | _, _, .cons h t, e', m => by
    rcases List.mem_cons.mp m with rfl | m
    · exact ⟨_, List.mem_cons_self, h⟩
    · obtain ⟨e, me, q⟩ := Fzd.mem t e' m
      exact ⟨e, List.mem_cons_of_mem _ me, q⟩
/-- which of what a list has is frozen by Fzd: those addresses are in no other entry -/
theorem Fzd.gone : ∀ {l l' : List Ent}, Paired Fzd l l' → (fpsOf l).Nodup → ∀ e' ∈ l', ∃ e ∈ l, e' = e ∨ (e' = e.frz ∧ ∀ a ∈ e.fp, a ∉ fpsOf l')
  | _, _, .nil, _, _, m => by cases m
  | _, _, .cons (a := e) (b := e1) (l₁ := r) (l₂ := r') h t, nd, e', m => by
    have nd' : (e.fp ++ fpsOf r).Nodup := nd
    rw [List.nodup_append] at nd'
    rcases List.mem_cons.mp m with rfl | m
    · rcases h with h | h
      · exact ⟨e, List.mem_cons_self, .inl h⟩
      · refine ⟨e, List.mem_cons_self, .inr ⟨h, fun a ma q => ?_⟩⟩
        subst h
        have q' : a ∈ [] ++ fpsOf r' := q
        exact nd'.2.2 a ma a ((Fzd.sub t).subset (by simpa using q')) rfl
    · obtain ⟨u, mu, q⟩ := Fzd.gone t nd'.2.1 e' m
      refine ⟨u, List.mem_cons_of_mem _ mu, q.imp id fun ⟨q1, q2⟩ => ⟨q1, fun a ma z => ?_⟩⟩
      have z' : a ∈ e1.fp ++ fpsOf r' := z
      rcases List.mem_append.mp z' with z' | z'
      · have : a ∈ e.fp := by
          rcases h with rfl | rfl
          · exact z'
          · cases z'
        exact nd'.2.2 a this a (mem_fps.mpr ⟨u, mu, ma⟩) rfl
      · exact q2 a ma z'
theorem Sat.freeze (s : Sat K Z H es ts) (he : Paired Fzd es es') (ht : Paired Fzd ts ts') : ∃ Z', Sat K Z' H es' ts' ∧ Step Z H (fpsOf (es ++ ts)) Z' H (fpsOf (es' ++ ts')) := by
  have pa := Fzd.app he ht
  have sl := Fzd.sub pa
  let G := (fpsOf (es ++ ts)).filter fun a => decide (a ∉ fpsOf (es' ++ ts'))
  have mG : ∀ a, a ∈ G ↔ a ∈ fpsOf (es ++ ts) ∧ a ∉ fpsOf (es' ++ ts') := fun a => by rw [List.mem_filter]; simp only [decide_eq_true_eq]
  refine ⟨zcat Z H G, ⟨fun a o e => ?_, sl.nodup s.nd, fun a m => ?_, fun e' m => ?_⟩, ⟨fun a o e _ => e, fun a m => .inl (sl.subset m), zcat_le, fun a o e => ?_⟩⟩
  · rcases zcat_of e with z | ⟨_, z⟩
    · exact s.sub a o z
    · exact .inl z
  · unfold zcat
    rw [s.zf a (sl.subset m), if_neg (fun z => ((mG a).mp z).2 m)]
  · obtain ⟨e, me, q⟩ := Fzd.gone pa s.nd e' m
    have ok := s.ok e me
    rcases q with rfl | ⟨rfl, ng⟩
    · exact ok.frame zcat_le (fun a _ o q => q) (Fzd.vs he)
    · cases hs : e.s with
      | ow t d =>
        unfold EntOk at ok
        rw [hs] at ok
        obtain ⟨x, h1, h2⟩ := ok
        show EntOk K _ H es' ⟨e.v, e.s.frz, []⟩
        rw [hs]
        exact ⟨x, h1, h2.freeze fun a ma => ⟨s.zf a (mem_fps.mpr ⟨e, me, ma⟩), (mG a).mpr ⟨mem_fps.mpr ⟨e, me, ma⟩, ng a ma⟩⟩, rfl⟩
      | fz d =>
        have ok2 := ok.frame (H' := H) (es2 := es') (zcat_le (H := H) (F := G)) (fun a _ o q => q) (Fzd.vs he)
        unfold EntOk at ok2 ⊢
        rw [hs] at ok2
        rw [show (Ent.frz e).s = .fz d by show e.s.frz = _; rw [hs]; rfl]
        obtain ⟨x, h1, h2, h3⟩ := ok2
        exact ⟨x, h1, h2, rfl⟩
      | un =>
        unfold EntOk
        rw [show (Ent.frz e).s = .un by show e.s.frz = _; rw [hs]; rfl]
        rfl
      | al i =>
        have ok2 := ok.frame (H' := H) (es2 := es') (zcat_le (H := H) (F := G)) (fun a _ o q => q) (Fzd.vs he)
        unfold EntOk at ok2 ⊢
        rw [hs] at ok2
        rw [show (Ent.frz e).s = .al i by show e.s.frz = _; rw [hs]; rfl]
        exact ⟨rfl, ok2.2⟩
  · rcases zcat_of e with z | ⟨z, _⟩
    · exact .inl z
    · exact .inr (.inl ((mG a).mp z).1)
/-! ### freezing an expression's value (a step of the mind alone) -/
def Sl.mod (ss : List Sl) (i : Nat) : List Sl := ss.modify i Sl.frz
def kfrz (r : Sl) (ss : List Sl) : Ro (Sl × List Sl) := match r with
  | .ow _ d => .ok (.fz d, ss)
  | .al i => match ss[i]? with
    | some (.ow _ d) => .ok (.fz d, ss.set i (.fz d))
    | some (.fz d) => .ok (.fz d, ss)
    | _ => .stuck
  | .fz d => .ok (.fz d, ss)
  | .un => .stuck
def ffrz (fa : FE) : FE := fun ss => (fa ss).bind fun p => kfrz p.1 p.2
theorem konAt {F : List Addr} {r : Sl} {ss : List Sl} (st : Step Z H F Z' H' (fpsOf (es' ++ us))) (s : Sat K Z' H' es' us) (hv : vsOf es' = σ) (hs : ssOf es' = ss) (k : KQ K E σ Z H F (.ok (r, ss)) Q) {v : V} {fv : List Addr} (hu : us = [⟨some v, r, fv⟩]) : Q v H' := by
  subst hu
  exact k Z' H' es' _ st s hv hs rfl v rfl
theorem re_frz {fa : FE} (h : RE K E (ffrz fa) σ H Q) : RE K E fa σ H Q := by
  obtain ⟨Z, es, s, hv, k⟩ := h
  refine RE.next (ts := []) (n := fun p => kfrz p.1 p.2) s hv (by rw [List.append_nil]; exact k) fun a Z1 H1 es1 v fp s1 hv1 k1 => ?_
  cases a with
  | un => exact k1.elim
  | fz d => exact konAt (Step.refl fun a m => m) s1 hv1 rfl k1 rfl
  | ow t d =>
    obtain ⟨Z2, s2, st⟩ := s1.freeze (Fzd.refl _) (Fzd.all _)
    exact konAt (us := [⟨some v, .fz d, []⟩]) st s2 hv1 rfl k1 rfl
  | al i =>
    have ok := s1.ok ⟨some v, .al i, fp⟩ (by simp)
    obtain ⟨h0, u, x, h1, h2, h3⟩ := ok
    cases h3
    have e1 : (ssOf es1)[i]? = some u.s := by rw [List.getElem?_map, h1]; rfl
    have um : u ∈ es1 ++ ([] ++ [⟨some v, .al i, fp⟩]) := List.mem_append_left _ (List.mem_of_getElem? h1)
    unfold kfrz at k1
    dsimp only at k1
    rw [e1] at k1
    cases hs : u.s with
    | un => rw [hs] at k1; exact k1.elim
    | al j => rw [hs] at k1; exact k1.elim
    | fz d =>
      rw [hs] at k1
      have := s1.ok u um
      unfold EntOk at this
      rw [hs] at this
      obtain ⟨y, q1, q2, q3⟩ := this
      rw [h2] at q1; cases q1
      exact fin_same s1 hv1 k1 ⟨v, rfl, q2, rfl⟩
    | ow t d =>
      rw [hs] at k1
      have pf := Fzd.modAt es1 i
      obtain ⟨Z2, s2, st⟩ := s1.freeze pf (Fzd.refl _)
      have e2 : (es1.modify i Ent.frz)[i]? = some u.frz := by rw [List.getElem?_modify_eq, h1]; rfl
      have ok2 := s2.ok u.frz (List.mem_append_left _ (List.mem_of_getElem? e2))
      unfold EntOk at ok2
      rw [show (Ent.frz u).s = .fz d by show u.s.frz = _; rw [hs]; rfl] at ok2
      obtain ⟨y, q1, q2, q3⟩ := ok2
      rw [show (Ent.frz u).v = u.v from rfl, h2] at q1; cases q1
      have e3 : ssOf (es1.modify i Ent.frz) = (ssOf es1).set i (.fz d) := by
        apply List.ext_getElem?
        intro j
        rw [List.getElem?_map, List.getElem?_set, List.getElem?_map, List.getElem?_modify]
        by_cases hj : i = j
        · subst hj
          rw [if_pos rfl, h1]
          have : i < (ssOf es1).length := (List.getElem?_eq_some_iff.mp e1).1
          rw [if_pos this]
          simp only [if_true]
          show some u.s.frz = _
          rw [hs]; rfl
        · rw [if_neg hj]
          simp only [hj]
          cases es1[j]? <;> rfl
      refine konAt (us := [⟨some v, .fz d, []⟩]) (Z' := Z2) (es' := es1.modify i Ent.frz) (st.less fun a m => ?_) ⟨s2.sub, ?_, fun a m => ?_, fun e m => ?_⟩ ((Fzd.vs pf).trans hv1) e3 k1 rfl
      · rcases fps_app.mp m with q | q
        · exact fps_app.mpr (.inl q)
        · simp at q
      · have nd := s2.nd
        simp only [fpsOf, List.flatMap_append] at nd ⊢
        simpa using (List.nodup_append.mp nd).1
      · rcases fps_app.mp m with q | q
        · exact s2.zf a (fps_app.mpr (.inl q))
        · simp at q
      · rcases List.mem_append.mp m with q | q
        · exact s2.ok e (List.mem_append_left _ q)
        · obtain rfl := List.mem_singleton.mp q
          exact ⟨v, rfl, q2, rfl⟩
end
end Mi

/-! M6: displays, tests, fields, slices, further operations. -/
namespace Mi
open PySem PySem.Spec PyProof.Rows L2 Rt
/-! ### the parts of a display: what is owned is frozen -/
def frzL : List Sl → Option (List D)
  | [] => some []
  | .fz d :: r => (frzL r).bind fun ds => some (d :: ds)
  | .ow _ d :: r => (frzL r).bind fun ds => some (d :: ds)
  | _ :: _ => none
section
variable {K : PySem.W.Frag} {E : EW} {σ : L2.St} {Z H Z' H' : Hp} {es ts us es' ts' : List Ent} {Q : VK}
theorem frz_reps : ∀ {us : List Ent} {vs : List V} {ds : List D}, (∀ u ∈ us.map Ent.frz, EntOk K Z H es u) → frzL (ssOf us) = some ds → vsOf us = vs.map some → FReps K Z vs ds
  | [], vs, ds, _, h, e => by
    cases h
    cases vs with
    | nil => exact .nil
    | cons _ _ => cases e
  | u :: us, vs, ds, ok, h, e => by
    cases vs with
    | nil => cases e
    | cons v vs =>
      simp only [List.map_cons, List.cons.injEq] at e
      have ok1 := ok u.frz (by simp)
      have ok2 : ∀ w ∈ us.map Ent.frz, EntOk K Z H es w := fun w m => ok w (by rw [List.map_cons]; exact List.mem_cons_of_mem _ m)
      unfold EntOk at ok1
      change frzL (u.s :: ssOf us) = some ds at h
      cases hs : u.s with
      | un => rw [hs] at h; cases h
      | al i => rw [hs] at h; cases h
      | fz d =>
        rw [hs] at h
        obtain ⟨ds', h1, h2⟩ := Option.bind_eq_some_iff.mp h
        cases h2
        rw [show (Ent.frz u).s = .fz d by show u.s.frz = _; rw [hs]; rfl] at ok1
        obtain ⟨x, q1, q2, _⟩ := ok1
        rw [show (Ent.frz u).v = u.v from rfl, e.1] at q1; cases q1
        exact .cons q2 (frz_reps ok2 h1 e.2)
      | ow t d =>
        rw [hs] at h
        obtain ⟨ds', h1, h2⟩ := Option.bind_eq_some_iff.mp h
        cases h2
        rw [show (Ent.frz u).s = .fz d by show u.s.frz = _; rw [hs]; rfl] at ok1
        obtain ⟨x, q1, q2, _⟩ := ok1
        rw [show (Ent.frz u).v = u.v from rfl, e.1] at q1; cases q1
        exact .cons q2 (frz_reps ok2 h1 e.2)
/-- all that is on the way is frozen -/
theorem Sat.freezeL {res : Ro (Sl × List Sl)} {vs : List V} {ds : List D} (s : Sat K Z H es us) (hv : vsOf es = σ) (he : vsOf us = vs.map some) (hd : frzL (ssOf us) = some ds) (k : KQ K E σ Z H (fpsOf (es ++ us)) res Q) :
    ∃ Z', Sat K Z' H es (us.map Ent.frz) ∧ FReps K Z' vs ds ∧ KQ K E σ Z' H (fpsOf (es ++ us.map Ent.frz)) res Q := by
  obtain ⟨Z', s', st⟩ := s.freeze (Fzd.refl _) (Fzd.all _)
  exact ⟨Z', s', frz_reps (fun u m => s'.ok u (List.mem_append_right _ m)) hd he, k.from st⟩
def kdisp (f : List D → D) (own : Bool) (rs : List Sl) (ss : List Sl) : Ro (Sl × List Sl) := match frzL rs with
  | some ds => if ds.length ≤ sizeLine then .ok (if own then .ow .o1 (f ds) else .fz (f ds), ss) else .stuck
  | none => .stuck
def fTup (ft : FA) : FE := fun ss => (ft ss).bind fun p => kdisp .tup false p.1 p.2
def fLst (ft : FA) : FE := fun ss => (ft ss).bind fun p => kdisp .lst true p.1 p.2
theorem re_tup {ft : FA} (h : RE K E (fTup ft) σ H Q) : tTup (RA K E ft) σ H Q := by
  obtain ⟨Z, es, s, hv, k⟩ := h
  refine RA.next (ts := []) (n := fun p => kdisp .tup false p.1 p.2) s hv (by rw [List.append_nil]; exact k) fun Z1 H1 es1 us vs e1 s1 hv1 k1 => ?_
  rw [List.nil_append] at s1 k1
  unfold kdisp at k1
  dsimp only at k1
  cases hd : frzL (ssOf us) with
  | none => rw [hd] at k1; exact k1.elim
  | some ds =>
    rw [hd] at k1
    dsimp only at k1
    obtain ⟨Z2, s2, fr, k2⟩ := s1.freezeL hv1 e1 hd k1
    split at k2
    · rename_i hl
      refine ⟨by rw [fr.len]; exact hl, fun p np => fin_new s2 hv1 k2 (New.fzo s2.sub np rfl rfl fr)⟩
    · exact k2.elim
theorem re_lst {ft : FA} (h : RE K E (fLst ft) σ H Q) : tLst (RA K E ft) σ H Q := by
  obtain ⟨Z, es, s, hv, k⟩ := h
  refine RA.next (ts := []) (n := fun p => kdisp .lst true p.1 p.2) s hv (by rw [List.append_nil]; exact k) fun Z1 H1 es1 us vs e1 s1 hv1 k1 => ?_
  rw [List.nil_append] at s1 k1
  unfold kdisp at k1
  dsimp only at k1
  cases hd : frzL (ssOf us) with
  | none => rw [hd] at k1; exact k1.elim
  | some ds =>
    rw [hd] at k1
    dsimp only at k1
    obtain ⟨Z2, s2, fr, k2⟩ := s1.freezeL hv1 e1 hd k1
    split at k2
    · rename_i hl
      refine ⟨by rw [fr.len]; exact hl, fun p np => fin_new s2 hv1 k2 (New.o1 s2.sub np rfl rfl fr)⟩
    · exact k2.elim
/-! ### writing to what is owned -/
/-- entry by entry: a is written, d' stands there -/
def Wr (a : Addr) (d' : D) (e e' : Ent) : Prop := (e' = e ∧ a ∉ e.fp) ∨ (e.fp = [a] ∧ e.v = some (.ref a) ∧ e' = ⟨e.v, .ow .o1 d', [a]⟩)
theorem Wr.fp {a : Addr} {d' : D} {e e' : Ent} (h : Wr a d' e e') : e'.fp = e.fp := by
  rcases h with ⟨rfl, _⟩ | ⟨h, _, rfl⟩
  · rfl
  · exact h.symm
theorem Wr.v {a : Addr} {d' : D} {e e' : Ent} (h : Wr a d' e e') : e'.v = e.v := by
  rcases h with ⟨rfl, _⟩ | ⟨_, _, rfl⟩ <;> rfl
theorem Wr.fps {a : Addr} {d' : D} : ∀ {l l' : List Ent}, Paired (Wr a d') l l' → fpsOf l' = fpsOf l
  | _, _, .nil => rfl
  | _, _, .cons h t => by
    show _ ++ fpsOf _ = _ ++ fpsOf _
    rw [h.fp, Wr.fps t]
theorem Wr.vs {a : Addr} {d' : D} : ∀ {l l' : List Ent}, Paired (Wr a d') l l' → vsOf l' = vsOf l
  | _, _, .nil => rfl
  | _, _, .cons h t => by
    simp only [List.map_cons, List.cons.injEq]
    exact ⟨h.v, Wr.vs t⟩
theorem Paired.mem_right {α β : Type} {R : α → β → Prop} : ∀ {l : List α} {m : List β}, Paired R l m → ∀ b ∈ m, ∃ a ∈ l, R a b
  | _, _, .nil, _, h => by cases h
  | _, _, .cons r t, b, h => by
    rcases List.mem_cons.mp h with rfl | h
    · exact ⟨_, List.mem_cons_self, r⟩
    · obtain ⟨a, m, q⟩ := Paired.mem_right t b h
      exact ⟨a, List.mem_cons_of_mem _ m, q⟩
theorem Paired.app {α β : Type} {R : α → β → Prop} : ∀ {a c : List α} {b d : List β}, Paired R a b → Paired R c d → Paired R (a ++ c) (b ++ d)
  | _, _, _, _, .nil, h => h
  | _, _, _, _, .cons r t, h => .cons r (Paired.app t h)
theorem Sat.write {a : Addr} {o : HO} {k : Kd} {vs : List V} {ds : List D} {d' : D} (s : Sat K Z H es ts) (ha : a ∈ fpsOf (es ++ ts)) (he : Paired (Wr a d') es es') (ht : Paired (Wr a d') ts ts') (hv : oview o = some (k, vs)) (hd : dview K d' = some (k, ds)) (hs : FReps K Z vs ds) :
    Sat K Z (upd H a o) es' ts' ∧ Step Z H (fpsOf (es ++ ts)) Z (upd H a o) (fpsOf (es' ++ ts')) := by
  have pa := Paired.app he ht
  have ef := Wr.fps pa
  have za := s.zf a ha
  refine ⟨⟨fun b u e => ?_, by rw [ef]; exact s.nd, fun b m => s.zf b (by rw [← ef]; exact m), fun e' m => ?_⟩, ⟨fun b u e n => ?_, fun b m => .inl (by rw [← ef]; exact m), Le.refl _, fun _ _ e => .inl e⟩⟩
  · have : b ≠ a := fun z => by subst z; rw [za] at e; cases e
    rw [upd_ne this]; exact s.sub b u e
  · obtain ⟨e, me, w⟩ := Paired.mem_right pa e' m
    rcases w with ⟨rfl, na⟩ | ⟨h1, h2, rfl⟩
    · exact (s.ok e' me).frame (Le.refl _) (fun b mb u q => by rw [upd_ne (fun z => na (by rw [← z]; exact mb))]; exact q) (Wr.vs he)
    · exact ⟨.ref a, h2, .inr ⟨a, o, k, vs, ds, rfl, upd_same, hv, hd, hs, rfl⟩⟩
  · have : b ≠ a := fun z => n (by rw [z]; exact ha)
    rw [upd_ne this]; exact e
/-- the entry that owns a, written; all others as they are -/
theorem Wr.set {a : Addr} {d' : D} : ∀ {l : List Ent} {i : Nat} {e : Ent}, l[i]? = some e → e.fp = [a] → e.v = some (.ref a) → (fpsOf l).Nodup → Paired (Wr a d') l (l.set i ⟨e.v, .ow .o1 d', [a]⟩)
  | [], _, _, h, _, _, _ => by simp at h
  | u :: r, 0, e, h, h1, h2, nd => by
    simp at h; subst h
    refine .cons (.inr ⟨h1, h2, rfl⟩) ?_
    have : a ∉ fpsOf r := fun m => by
      have nd' : (u.fp ++ fpsOf r).Nodup := nd
      rw [h1] at nd'
      simp only [List.singleton_append, List.nodup_cons] at nd'
      exact nd'.1 m
    clear nd
    induction r with
    | nil => exact .nil
    | cons x r ih =>
      refine .cons (.inl ⟨rfl, fun m => this (by show a ∈ x.fp ++ fpsOf r; exact List.mem_append_left _ m)⟩) (ih fun m => this (by show a ∈ x.fp ++ fpsOf r; exact List.mem_append_right _ m))
  | u :: r, i + 1, e, h, h1, h2, nd => by
    have nd' : (u.fp ++ fpsOf r).Nodup := nd
    rw [List.nodup_append] at nd'
    have h' : r[i]? = some e := by simpa using h
    refine .cons (.inl ⟨rfl, fun m => nd'.2.2 a m a (mem_fps.mpr ⟨e, List.mem_of_getElem? h', by rw [h1]; exact List.mem_singleton.mpr rfl⟩) rfl⟩) (Wr.set h' h1 h2 nd'.2.1)
theorem Wr.refl {a : Addr} {d' : D} : ∀ {l : List Ent}, a ∉ fpsOf l → Paired (Wr a d') l l
  | [], _ => .nil
  | u :: r, h => .cons (.inl ⟨rfl, fun m => h (by show a ∈ u.fp ++ fpsOf r; exact List.mem_append_left _ m)⟩) (Wr.refl fun m => h (by show a ∈ u.fp ++ fpsOf r; exact List.mem_append_right _ m))
end
/-! ### tests -/
def truD : D → Option Bool
  | .non => some false
  | .bl b => some b
  | .int i => some (i != 0)
  | .str x => if x.length ≤ sizeLine then some ((x.length : Int) != 0) else none
  | .lst xs => some !xs.isEmpty
  | .tup xs => some !xs.isEmpty
  | _ => none
def ktest (f : D → Option Bool) (r : Sl) (ss : List Sl) : Ro (Bool × List Sl) := match (r.val ss).bind fun x => f x.2 with
  | some b => .ok (b, ss)
  | none => .stuck
def blD : D → Option Bool
  | .bl b => some b
  | _ => none
def fTest (fa : FE) : FT := fun ss => (fa ss).bind fun p => ktest blD p.1 p.2
def fTrv (fa : FE) : FT := fun ss => (fa ss).bind fun p => ktest truD p.1 p.2
def fAnd (fa fb : FT) : FT := fun ss => (fa ss).bind fun p => if p.1 = true then fb p.2 else .ok (false, p.2)
def fOr (fa fb : FT) : FT := fun ss => (fa ss).bind fun p => if p.1 = true then .ok (true, p.2) else fb p.2
def fNot (fa : FT) : FT := fun ss => (fa ss).bind fun p => .ok (!p.1, p.2)
def fIf (ft : FT) (fa fb : FE) : FE := fun ss => (ft ss).bind fun p => if p.1 = true then fa p.2 else fb p.2
def fYes : FT := fun ss => .ok (true, ss)
section
variable {K : PySem.W.Frag} {E : EW} {σ : L2.St} {Z H Z' H' : Hp} {es ts us es' ts' : List Ent} {Q : VK} {B : Bool → Hp → Prop}
abbrev KB (K : PySem.W.Frag) (E : EW) (σ : L2.St) (Z H : Hp) (F : List Addr) (m : Ro (Bool × List Sl)) (B : Bool → Hp → Prop) : Prop := Kon K E σ Z H F m (fun _ => []) fun b _ H' _ _ => B b H'
theorem fin_b {b : Bool} (s : Sat K Z H es ts) (hv : vsOf es = σ) (k : KB K E σ Z H (fpsOf (es ++ ts)) (.ok (b, ssOf es)) B) : B b H :=
  k Z H es [] (Step.refl fun a m => by rw [List.append_nil] at m; exact fps_app.mpr (.inl m)) s.bare hv rfl rfl
theorem tru_of {t : Tg} {v : V} {d : D} {fp : List Addr} {b : Bool} (s : Sub Z H) (h : Rep K Z H t v d fp) (e : truD d = some b) : TruV K v H b := by
  unfold truD at e
  split at e
  · cases e; rw [rep_non s h]; rfl
  · cases e; rw [rep_bl s h]; rfl
  · cases e; rw [rep_int s h]; rfl
  · split at e
    · rename_i hl; cases e; rw [rep_str s h]; exact ⟨hl, rfl⟩
    · cases e
  · cases e
    rename_i xs
    obtain ⟨a, vs, rfl, q, fr⟩ := rep_lstR s h
    refine .inl ⟨vs, .of q, ?_⟩
    cases fr <;> rfl
  · cases e
    rename_i xs
    obtain ⟨a, vs, rfl, q, fr⟩ := rep_tupR s h
    refine .inr (.inl ⟨vs, q, ?_⟩)
    cases fr <;> rfl
  · cases e
theorem ktest_of {f : D → Option Bool} {r : Sl} {ss : List Sl} {F : List Addr} (k : KB K E σ Z H F (ktest f r ss) B) : ∃ t d b, r.val ss = some (t, d) ∧ f d = some b ∧ KB K E σ Z H F (.ok (b, ss)) B := by
  unfold ktest at k
  cases h : (r.val ss).bind fun x => f x.2 with
  | none => rw [h] at k; exact k.elim
  | some b =>
    rw [h] at k
    obtain ⟨⟨t, d⟩, h1, h2⟩ := Option.bind_eq_some_iff.mp h
    exact ⟨t, d, b, h1, h2, k⟩
theorem rt_trv {fa : FE} (h : RT K E (fTrv fa) σ H B) : tTrv K (RE K E fa) σ H B := by
  obtain ⟨Z, es, s, hv, k⟩ := h
  refine RE.next (ts := []) (n := fun p => ktest truD p.1 p.2) s hv (by rw [List.append_nil]; exact k) fun a Z1 H1 es1 v fp s1 hv1 k1 => ?_
  obtain ⟨t, d, b, h1, h2, k2⟩ := ktest_of k1
  obtain ⟨f, rp, _⟩ := s1.val (e := ⟨some v, a, fp⟩) (by simp) rfl h1
  exact ⟨b, tru_of s1.sub rp h2, fin_b s1 hv1 k2⟩
theorem rt_test {fa : FE} (h : RT K E (fTest fa) σ H B) : tTest (RE K E fa) σ H B := by
  obtain ⟨Z, es, s, hv, k⟩ := h
  refine RE.next (ts := []) (n := fun p => ktest blD p.1 p.2) s hv (by rw [List.append_nil]; exact k) fun a Z1 H1 es1 v fp s1 hv1 k1 => ?_
  obtain ⟨t, d, b, h1, h2, k2⟩ := ktest_of k1
  obtain ⟨f, rp, _⟩ := s1.val (e := ⟨some v, a, fp⟩) (by simp) rfl h1
  cases d <;> cases h2
  exact ⟨_, rep_bl s1.sub rp, fin_b s1 hv1 k2⟩
theorem RT.of (s : Sat K Z H es []) (hv : vsOf es = σ) {fa : FT} (k : KB K E σ Z H (fpsOf es) (fa (ssOf es)) B) : RT K E fa σ H B := ⟨Z, es, s, hv, k⟩
theorem rt_and {fa fb : FT} (h : RT K E (fAnd fa fb) σ H B) : tAnd (RT K E fa) (RT K E fb) σ H B := by
  obtain ⟨Z, es, s, hv, k⟩ := h
  refine RT.next (ts := []) (n := fun p => if p.1 = true then fb p.2 else .ok (false, p.2)) s hv (by rw [List.append_nil]; exact k) fun b Z1 H1 es1 s1 hv1 k1 => ?_
  rw [List.append_nil] at k1
  cases b with
  | true => exact RT.of s1 hv1 k1
  | false => exact fin_b s1 hv1 (by rw [List.append_nil]; exact k1)
theorem rt_or {fa fb : FT} (h : RT K E (fOr fa fb) σ H B) : tOr (RT K E fa) (RT K E fb) σ H B := by
  obtain ⟨Z, es, s, hv, k⟩ := h
  refine RT.next (ts := []) (n := fun p => if p.1 = true then .ok (true, p.2) else fb p.2) s hv (by rw [List.append_nil]; exact k) fun b Z1 H1 es1 s1 hv1 k1 => ?_
  rw [List.append_nil] at k1
  cases b with
  | true => exact fin_b s1 hv1 (by rw [List.append_nil]; exact k1)
  | false => exact RT.of s1 hv1 k1
theorem rt_not {fa : FT} (h : RT K E (fNot fa) σ H B) : tNot (RT K E fa) σ H B := by
  obtain ⟨Z, es, s, hv, k⟩ := h
  refine RT.next (ts := []) (n := fun p => .ok (!p.1, p.2)) s hv (by rw [List.append_nil]; exact k) fun b Z1 H1 es1 s1 hv1 k1 => ?_
  exact fin_b s1 hv1 k1
theorem rt_yes (h : RT K E fYes σ H B) : tYes σ H B := by
  obtain ⟨Z, es, s, hv, k⟩ := h
  exact fin_b s hv (by rw [List.append_nil]; exact k)
theorem RE.of (s : Sat K Z H es []) (hv : vsOf es = σ) {fa : FE} (k : KQ K E σ Z H (fpsOf es) (fa (ssOf es)) Q) : RE K E fa σ H Q := ⟨Z, es, s, hv, k⟩
theorem re_if {ft : FT} {fa fb : FE} (h : RE K E (fIf ft fa fb) σ H Q) : tIf (RT K E ft) (RE K E fa) (RE K E fb) σ H Q := by
  obtain ⟨Z, es, s, hv, k⟩ := h
  refine RT.next (ts := []) (n := fun p => if p.1 = true then fa p.2 else fb p.2) s hv (by rw [List.append_nil]; exact k) fun b Z1 H1 es1 s1 hv1 k1 => ?_
  rw [List.append_nil] at k1
  cases b with
  | true => exact RE.of s1 hv1 k1
  | false => exact RE.of s1 hv1 k1
/-- a < b < c -/
def fChain (op op' : Tg → D → Tg → D → Option Sl) (fa fb fc : FE) : FE := fun ss => (fa ss).bind fun p => (fb p.2).bind fun q => (k2 op p.1 q.1 q.2).bind fun r => match r.1 with
  | .fz (.bl true) => (fc r.2).bind fun w => k2 op' q.1 w.1 w.2
  | .fz (.bl false) => .ok (.fz (.bl false), r.2)
  | _ => .stuck
/-- operations whose answer is a truth -/
def Op2B (K : PySem.W.Frag) (r : R2) (op : Tg → D → Tg → D → Option Sl) : Prop := ∀ {Z H : Hp} {t u : Tg} {d e : D} {v w : V} {fp fq : List Addr} {res : Sl} {Q : VK}, Sub Z H → Rep K Z H t v d fp → Rep K Z H u w e fq → op t d u e = some res → (∀ b, res = .fz (.bl b) → Q (.bl b) H) → r v w H Q
theorem op2B_I {f : Int → Int → Bool} : Op2B K (rI0 fun i j => .bl (f i j)) (opI fun a b => some (.bl (f a b))) := by
  intro Z H t u x y v w fp fq res Q s h1 h2 h k
  obtain ⟨a, b, d, rfl, rfl, e, rfl⟩ := opI_of h
  cases e
  rw [rep_int s h1, rep_int s h2]
  exact ⟨a, b, rfl, rfl, k _ rfl⟩
theorem op2B_eq : Op2B K (rEqU K) opEq := by
  intro Z H t u x y v w fp fq res Q s h1 h2 h k
  obtain ⟨b, e, rfl⟩ := Option.map_eq_some_iff.mp h
  have kk := k b rfl
  rcases eqD_of e with ⟨i, j, rfl, rfl, rfl⟩ | ⟨i, j, rfl, rfl, rfl⟩ | ⟨p, q, e1, e2, s1, s2, rfl⟩
  · rw [rep_int s h1, rep_int s h2]
    exact .inl ⟨rfl, by rw [dI]; exact kk⟩
  · rw [rep_str s h1, rep_str s h2]
    exact .inl ⟨rfl, by rw [dS]; exact kk⟩
  · exact .inr ⟨p, q, dp_of (h1.rd s) e1, dp_of (h2.rd s) e2, s1, s2, kk⟩
theorem re_chain {r r' : R2} {op op' : Tg → D → Tg → D → Option Sl} {fa fb fc : FE} (h1 : Op2B K r op) (h2 : Op2 K r' op') (h : RE K E (fChain op op' fa fb fc) σ H Q) : tChain r r' (RE K E fa) (RE K E fb) (RE K E fc) σ H Q := by
  obtain ⟨Z, es, s, hv, k⟩ := h
  refine RE.next (ts := []) (n := fun p => (fb p.2).bind fun q => (k2 op p.1 q.1 q.2).bind fun r => match r.1 with
    | .fz (.bl true) => (fc r.2).bind fun w => k2 op' q.1 w.1 w.2
    | .fz (.bl false) => .ok (.fz (.bl false), r.2)
    | _ => .stuck) s hv (by rw [List.append_nil]; exact k) fun a Z1 H1 es1 v fp s1 hv1 k1 => ?_
  refine RE.next (n := fun q => (k2 op a q.1 q.2).bind fun r => match r.1 with
    | .fz (.bl true) => (fc r.2).bind fun w => k2 op' q.1 w.1 w.2
    | .fz (.bl false) => .ok (.fz (.bl false), r.2)
    | _ => .stuck) s1 hv1 k1 fun b Z2 H2 es2 w fq s2 hv2 k2' => ?_
  unfold k2 at k2'
  cases hr : (a.val (ssOf es2)).bind fun x => (b.val (ssOf es2)).bind fun y => op x.1 x.2 y.1 y.2 with
  | none => dsimp only at k2'; rw [hr] at k2'; exact k2'.elim
  | some r0 =>
    dsimp only at k2'
    rw [hr] at k2'
    obtain ⟨⟨t, d⟩, e1, e2⟩ := Option.bind_eq_some_iff.mp hr
    obtain ⟨⟨u, e⟩, e3, e4⟩ := Option.bind_eq_some_iff.mp e2
    obtain ⟨f, rp, _⟩ := s2.val (e := ⟨some v, a, fp⟩) (by simp) rfl e1
    obtain ⟨f', rp', _⟩ := s2.val (e := ⟨some w, b, fq⟩) (by simp) rfl e3
    refine h1 s2.sub rp rp' e4 fun c hc => ⟨c, rfl, ?_⟩
    subst hc
    cases c with
    | true =>
      rw [if_pos rfl]
      have s3 : Sat K Z2 H2 es2 [⟨some w, b, fq⟩] := Sat.dropL (ts := [⟨some v, a, fp⟩]) (by simpa using s2)
      refine RE.next (n := fun w => k2 op' b w.1 w.2) s3 hv2 (Kon.from (Step.refl fun x m => ?_) k2') fun c Z4 H4 es4 z fz s4 hv4 k4 => ?_
      · exact fps_dropL (ts := [⟨some v, a, fp⟩]) x m
      · obtain ⟨r1, hr1, k5⟩ := Kon.some k4
        obtain ⟨⟨t', d'⟩, q1, q2⟩ := Option.bind_eq_some_iff.mp hr1
        obtain ⟨⟨u', e'⟩, q3, q4⟩ := Option.bind_eq_some_iff.mp q2
        obtain ⟨_, rp1, _⟩ := s4.val (e := ⟨some w, b, fq⟩) (by simp) rfl q1
        obtain ⟨_, rp2, _⟩ := s4.val (e := ⟨some z, c, fz⟩) (by simp) rfl q3
        exact h2 s4.sub rp1 rp2 q4 fun Z' H' u fu n => fin_new s4 hv4 k5 n
    | false =>
      rw [if_neg (by decide)]
      exact fin_new s2 hv2 k2' (New.leaf s2.sub (.bl false))
end
end Mi

/-! M7: statements. -/
namespace Mi
open PySem PySem.Spec PyProof.Rows L2 Rt
inductive So where
  | nx (ss : List Sl) | rt (r : Sl) (ss : List Sl) | bk (ss : List Sl) | ct (ss : List Sl) | exc (c : Str) (fs : List (Str × D)) (ss : List Sl) | stuck
abbrev FS := List Sl → So
/-- the slots kp hold what they held -/
def Kept (kp : List Nat) (σ σ' : L2.St) : Prop := σ'.length = σ.length ∧ ∀ i ∈ kp, σ'[i]? = σ[i]?
theorem Kept.refl {kp : List Nat} (σ : L2.St) : Kept kp σ σ := ⟨rfl, fun _ _ => rfl⟩
theorem Kept.tr {kp : List Nat} {σ σ1 σ2 : L2.St} (a : Kept kp σ σ1) (b : Kept kp σ1 σ2) : Kept kp σ σ2 := ⟨b.1.trans a.1, fun i m => (b.2 i m).trans (a.2 i m)⟩
def SK (K : PySem.W.Frag) (E : EW) (kp : List Nat) (σ : L2.St) (Z H : Hp) (F : List Addr) (o : So) (D : Ends) : Prop := match o with
  | .nx ss' => ∀ Z' H' es', Step Z H F Z' H' (fpsOf es') → Sat K Z' H' es' [] → Kept kp σ (vsOf es') → ssOf es' = ss' → D.nx (vsOf es') H'
  | .bk ss' => ∀ Z' H' es', Step Z H F Z' H' (fpsOf es') → Sat K Z' H' es' [] → Kept kp σ (vsOf es') → ssOf es' = ss' → D.bk (vsOf es') H'
  | .ct ss' => ∀ Z' H' es', Step Z H F Z' H' (fpsOf es') → Sat K Z' H' es' [] → Kept kp σ (vsOf es') → ssOf es' = ss' → D.ct (vsOf es') H'
  | .rt r ss' => ∀ Z' H' es' v fv, Step Z H F Z' H' (fpsOf (es' ++ [⟨some v, r, fv⟩])) → Sat K Z' H' es' [⟨some v, r, fv⟩] → Kept kp σ (vsOf es') → ssOf es' = ss' → D.rt v H'
  | .exc c fs ss' => ∀ Z' H' es' d, Step Z H F Z' H' (fpsOf es') → Sat K Z' H' es' [] → Kept kp σ (vsOf es') → ssOf es' = ss' → ExcD K Z' H' d fs → E (vsOf es') (.ref (He.ga K c)) (some d) H'
  | .stuck => False
def RS (K : PySem.W.Frag) (E : EW) (kp : List Nat) (f : FS) : TS := fun D σ H => ∃ Z es, Sat K Z H es [] ∧ vsOf es = σ ∧ SK K E kp σ Z H (fpsOf es) (f (ssOf es)) D
def So.seq (o : So) (g : FS) : So := match o with
  | .nx ss => g ss
  | o => o
/-- what an expression's outcome gives a statement -/
def Ro.so {α : Type} (m : Ro α) (g : α → So) : So := match m with
  | .ok a => g a
  | .exc c fs ss => .exc c fs ss
  | .stuck => .stuck
def fSeq (f g : FS) : FS := fun ss => (f ss).seq g
def fNext : FS := fun ss => .nx ss
def fDrop (fe : FE) : FS := fun ss => (fe ss).so fun p => .nx p.2
def fRet (fe : FE) : FS := fun ss => (fe ss).so fun p => .rt p.1 p.2
def fRetN : FS := fun ss => .rt (.fz .non) ss
def fBreak : FS := fun ss => .bk ss
def fCont : FS := fun ss => .ct ss
def fIfS (ft : FT) (f g : FS) : FS := fun ss => (ft ss).so fun p => if p.1 = true then f p.2 else g p.2
def fNever : FS := fun _ => .stuck
section
variable {K : PySem.W.Frag} {E : EW} {kp : List Nat} {σ σ1 : L2.St} {Z H Z' H' Z1 H1 : Hp} {F F1 : List Addr} {es ts us es1 : List Ent} {D D' : Ends} {o : So}
theorem SK.from (st : Step Z H F Z1 H1 F1) (kd : Kept kp σ σ1) (k : SK K E kp σ Z H F o D) : SK K E kp σ1 Z1 H1 F1 o D := by
  unfold SK at k ⊢
  split at k
  · exact fun Z' H' es' a s b => k Z' H' es' (st.tr a) s (kd.tr b)
  · exact fun Z' H' es' a s b => k Z' H' es' (st.tr a) s (kd.tr b)
  · exact fun Z' H' es' a s b => k Z' H' es' (st.tr a) s (kd.tr b)
  · exact fun Z' H' es' v fv a s b => k Z' H' es' v fv (st.tr a) s (kd.tr b)
  · exact fun Z' H' es' d a s b => k Z' H' es' d (st.tr a) s (kd.tr b)
  · exact k
theorem RS.of (s : Sat K Z H es []) (hv : vsOf es = σ) {f : FS} (k : SK K E kp σ Z H (fpsOf es) (f (ssOf es)) D) : RS K E kp f D σ H := ⟨Z, es, s, hv, k⟩
theorem rs_seq {f g : FS} (h : RS K E kp (fSeq f g) D σ H) : tSeq (RS K E kp f) (RS K E kp g) D σ H := by
  obtain ⟨Z, es, s, hv, k⟩ := h
  refine ⟨Z, es, s, hv, ?_⟩
  unfold fSeq So.seq at k
  cases hf : f (ssOf es) with
  | nx ss =>
    rw [hf] at k
    intro Z' H' es' st s' kd e
    refine RS.of s' rfl ?_
    rw [e]
    exact SK.from st kd k
  | rt r ss => rw [hf] at k; exact k
  | bk ss => rw [hf] at k; exact k
  | ct ss => rw [hf] at k; exact k
  | exc c fs ss => rw [hf] at k; exact k
  | stuck => rw [hf] at k; exact k
theorem rs_next (h : RS K E kp fNext D σ H) : tNext D σ H := by
  obtain ⟨Z, es, s, hv, k⟩ := h
  have := k Z H es (Step.refl fun _ m => m) s (by rw [hv]; exact Kept.refl _) rfl
  rw [hv] at this; exact this
theorem rs_break (h : RS K E kp fBreak D σ H) : tBreak D σ H := by
  obtain ⟨Z, es, s, hv, k⟩ := h
  have := k Z H es (Step.refl fun _ m => m) s (by rw [hv]; exact Kept.refl _) rfl
  rw [hv] at this; exact this
theorem rs_cont (h : RS K E kp fCont D σ H) : tCont D σ H := by
  obtain ⟨Z, es, s, hv, k⟩ := h
  have := k Z H es (Step.refl fun _ m => m) s (by rw [hv]; exact Kept.refl _) rfl
  rw [hv] at this; exact this
theorem rs_never (h : RS K E kp fNever D σ H) : tNever D σ H := h.elim fun _ h => h.elim fun _ h => h.2.2
/-- the outcome of an expression ahead of the rest of a statement; ts: what is on the way -/
theorem kon_so {α : Type} {m : Ro (α × List Sl)} {n : α × List Sl → So} {rm : α → List Sl} {Qm : α → Hp → Hp → List Ent → List Ent → Prop} (s : Sat K Z1 H1 es1 ts) (hv : vsOf es1 = σ) (k : SK K E kp σ Z1 H1 (fpsOf (es1 ++ ts)) (m.so n) D)
    (h : ∀ a Z2 H2 es2 us, ssOf us = rm a → Sat K Z2 H2 es2 (ts ++ us) → vsOf es2 = σ → SK K E kp σ Z2 H2 (fpsOf (es2 ++ (ts ++ us))) (n (a, ssOf es2)) D → Qm a Z2 H2 es2 us) : Kon K E σ Z1 H1 (fpsOf es1) m rm Qm := by
  cases m with
  | ok p =>
    obtain ⟨a, ss'⟩ := p
    intro Z2 H2 es2 us st s2 h1 h2 h3
    obtain ⟨s3, st3⟩ := s.frame st s2 (h1.trans hv.symm)
    refine h a Z2 H2 es2 us h3 s3 h1 ?_
    subst h2
    exact SK.from st3 (Kept.refl _) k
  | exc c fs ss' =>
    intro Z2 H2 es2 d st s2 h1 h2 h3
    have := k Z2 H2 es2 d (st.wide fun a z => fps_app.mpr (.inl z)) s2 (by rw [h1]; exact Kept.refl _) h2 h3
    rw [h1] at this; exact this
  | stuck => exact k
theorem RE.so {f : FE} {n : Sl × List Sl → So} {Q : VK} (s : Sat K Z1 H1 es1 ts) (hv : vsOf es1 = σ) (k : SK K E kp σ Z1 H1 (fpsOf (es1 ++ ts)) ((f (ssOf es1)).so n) D)
    (h : ∀ r Z2 H2 es2 v fp, Sat K Z2 H2 es2 (ts ++ [⟨some v, r, fp⟩]) → vsOf es2 = σ → SK K E kp σ Z2 H2 (fpsOf (es2 ++ (ts ++ [⟨some v, r, fp⟩]))) (n (r, ssOf es2)) D → Q v H2) : RE K E f σ H1 Q := by
  refine ⟨Z1, es1, s.bare, hv, kon_so s hv k fun a Z2 H2 es2 us e1 s2 e2 k2 v e3 => ?_⟩
  obtain ⟨u, rfl⟩ : ∃ u, us = [u] := List.length_eq_one_iff.mp (by have := congrArg List.length e3; simpa using this)
  obtain ⟨uv, usl, ufp⟩ := u
  simp only [List.map_cons, List.map_nil, List.cons.injEq, and_true] at e1 e3
  subst e1 e3
  exact h usl Z2 H2 es2 v ufp s2 e2 k2
theorem RT.so {f : FT} {n : Bool × List Sl → So} {Q : Bool → Hp → Prop} (s : Sat K Z1 H1 es1 ts) (hv : vsOf es1 = σ) (k : SK K E kp σ Z1 H1 (fpsOf (es1 ++ ts)) ((f (ssOf es1)).so n) D)
    (h : ∀ b Z2 H2 es2, Sat K Z2 H2 es2 ts → vsOf es2 = σ → SK K E kp σ Z2 H2 (fpsOf (es2 ++ ts)) (n (b, ssOf es2)) D → Q b H2) : RT K E f σ H1 Q := by
  refine ⟨Z1, es1, s.bare, hv, kon_so s hv k fun a Z2 H2 es2 us e1 s2 e2 k2 => ?_⟩
  obtain rfl : us = [] := by simpa using e1
  rw [List.append_nil] at s2 k2
  exact h a Z2 H2 es2 s2 e2 k2
theorem RA.so {f : FA} {n : List Sl × List Sl → So} {Q : List V → Hp → Prop} (s : Sat K Z1 H1 es1 ts) (hv : vsOf es1 = σ) (k : SK K E kp σ Z1 H1 (fpsOf (es1 ++ ts)) ((f (ssOf es1)).so n) D)
    (h : ∀ Z2 H2 es2 us vs, vsOf us = vs.map some → Sat K Z2 H2 es2 (ts ++ us) → vsOf es2 = σ → SK K E kp σ Z2 H2 (fpsOf (es2 ++ (ts ++ us))) (n (ssOf us, ssOf es2)) D → Q vs H2) : RA K E f σ H1 Q := by
  refine ⟨Z1, es1, s.bare, hv, kon_so s hv k fun a Z2 H2 es2 us e1 s2 e2 k2 vs e3 => ?_⟩
  subst e1
  exact h Z2 H2 es2 us vs e3 s2 e2 k2
theorem sk_nx (s : Sat K Z H es ts) (hv : vsOf es = σ) (k : SK K E kp σ Z H (fpsOf (es ++ ts)) (.nx (ssOf es)) D) : D.nx σ H := by
  have := k Z H es (Step.refl fun a m => fps_app.mpr (.inl m)) s.bare (by rw [hv]; exact Kept.refl _) rfl
  rw [hv] at this; exact this
theorem rs_drop {fe : FE} (h : RS K E kp (fDrop fe) D σ H) : tDrop (RE K E fe) D σ H := by
  obtain ⟨Z, es, s, hv, k⟩ := h
  exact RE.so (ts := []) (n := fun p => .nx p.2) s hv (by rw [List.append_nil]; exact k) fun r Z2 H2 es2 v fp s2 hv2 k2 => sk_nx s2 hv2 k2
theorem rs_ret {fe : FE} (h : RS K E kp (fRet fe) D σ H) : tRet (RE K E fe) D σ H := by
  obtain ⟨Z, es, s, hv, k⟩ := h
  refine RE.so (ts := []) (n := fun p => .rt p.1 p.2) s hv (by rw [List.append_nil]; exact k) fun r Z2 H2 es2 v fp s2 hv2 k2 => ?_
  exact k2 Z2 H2 es2 v fp (Step.refl fun _ m => m) s2 (by rw [hv2]; exact Kept.refl _) rfl
theorem rs_retN (h : RS K E kp fRetN D σ H) : tRetN D σ H := by
  obtain ⟨Z, es, s, hv, k⟩ := h
  refine k Z H es .non [] (Step.refl fun a m => ?_) ⟨s.sub, ?_, fun a m => s.zf a ?_, fun e m => ?_⟩ (by rw [hv]; exact Kept.refl _) rfl
  · rcases fps_app.mp m with q | q
    · exact q
    · simp at q
  · simpa [fpsOf, List.flatMap_append] using s.nd
  · rcases fps_app.mp m with q | q
    · rw [List.append_nil]; exact q
    · simp at q
  · rcases List.mem_append.mp m with q | q
    · exact s.ok e (List.mem_append_left _ q)
    · obtain rfl := List.mem_singleton.mp q
      exact ⟨.non, rfl, .leaf .non, rfl⟩
theorem rs_if {ft : FT} {f g : FS} (h : RS K E kp (fIfS ft f g) D σ H) : tIfS (RT K E ft) (RS K E kp f) (RS K E kp g) D σ H := by
  obtain ⟨Z, es, s, hv, k⟩ := h
  refine RT.so (ts := []) (n := fun p => if p.1 = true then f p.2 else g p.2) s hv (by rw [List.append_nil]; exact k) fun b Z1 H1 es1 s1 hv1 k1 => ?_
  rw [List.append_nil] at k1
  cases b with
  | true => exact RS.of s1 hv1 k1
  | false => exact RS.of s1 hv1 k1
/-! ### names are given values -/
def Sl.kill (i : Nat) : Sl → Sl
  | .al j => if j = i then .un else .al j
  | s => s
def setS (i : Nat) (r : Sl) (ss : List Sl) : List Sl := match r with
  | .al j => if j = i then ss else (ss.map (Sl.kill i)).set i (.al j)
  | r => (ss.map (Sl.kill i)).set i r
def Ent.kill (i : Nat) (e : Ent) : Ent := ⟨e.v, e.s.kill i, e.fp⟩
theorem fps_kill (i : Nat) : ∀ l : List Ent, fpsOf (l.map (Ent.kill i)) = fpsOf l
  | [] => rfl
  | e :: r => by
    show e.fp ++ fpsOf (r.map (Ent.kill i)) = e.fp ++ fpsOf r
    rw [fps_kill i r]
theorem fps_set_sub {l : List Ent} {i : Nat} {e : Ent} : ∀ a ∈ fpsOf (l.set i e), a ∈ fpsOf l ∨ a ∈ e.fp := by
  intro a m
  obtain ⟨u, mu, ma⟩ := mem_fps.mp m
  rcases List.mem_or_eq_of_mem_set mu with q | q
  · exact .inl (mem_fps.mpr ⟨u, q, ma⟩)
  · subst q; exact .inr ma
theorem fps_set_nodup : ∀ {l : List Ent} {i : Nat} {e : Ent}, (fpsOf l ++ e.fp).Nodup → (fpsOf (l.set i e)).Nodup
  | [], _, _, h => by simp
  | u :: r, 0, e, h => by
    have h' : ((u.fp ++ fpsOf r) ++ e.fp).Nodup := h
    show (e.fp ++ fpsOf r).Nodup
    rw [List.nodup_append] at h'
    obtain ⟨h1, h2, h3⟩ := h'
    rw [List.nodup_append] at h1
    rw [List.nodup_append]
    exact ⟨h2, h1.2.1, fun a m b mb z => h3 b (List.mem_append_right _ mb) a m z.symm⟩
  | u :: r, i + 1, e, h => by
    have h' : ((u.fp ++ fpsOf r) ++ e.fp).Nodup := h
    show (u.fp ++ fpsOf (r.set i e)).Nodup
    rw [List.append_assoc, List.nodup_append] at h'
    rw [List.nodup_append]
    refine ⟨h'.1, fps_set_nodup h'.2.1, fun a m b mb z => ?_⟩
    rcases fps_set_sub b mb with q | q
    · exact h'.2.2 a m b (List.mem_append_left _ q) z
    · exact h'.2.2 a m b (List.mem_append_right _ q) z
/-- name i takes what is on the way -/
theorem Sat.assign {i : Nat} {v : Option V} {r : Sl} {fp : List Addr} (s : Sat K Z H es (ts ++ [⟨v, r, fp⟩])) (hi : i < es.length) (hts : ∀ e ∈ ts, ∀ j, e.s = .al j → j ≠ i) : ∃ es', Sat K Z H es' ts ∧ (∀ a ∈ fpsOf (es' ++ ts), a ∈ fpsOf (es ++ (ts ++ [⟨v, r, fp⟩]))) ∧ vsOf es' = (vsOf es).set i v ∧ ssOf es' = setS i r (ssOf es) := by
  have okR := s.ok ⟨v, r, fp⟩ (by simp)
  by_cases same : r = .al i
  · subst same
    obtain ⟨h0, u, x, h1, h2, h3⟩ := okR
    dsimp only at h3
    refine ⟨es, s.drop, fun a m => ?_, ?_, ?_⟩
    · rcases fps_app.mp m with q | q
      · exact fps_app.mpr (.inl q)
      · exact fps_app.mpr (.inr (fps_app.mpr (.inl q)))
    · apply List.ext_getElem?
      intro j
      rw [List.getElem?_set]
      by_cases q : i = j
      · subst q
        rw [if_pos rfl, if_pos (by simpa using hi), List.getElem?_map, h1]
        simp [h2, h3]
      · rw [if_neg q]
    · simp [setS]
  · refine ⟨(es.map (Ent.kill i)).set i ⟨v, r, fp⟩, ?_, ?_, ?_, ?_⟩
    · have nd := s.nd
      have e0 : (fpsOf es ++ (fpsOf ts ++ fp)).Nodup := by
        simpa [fpsOf, List.flatMap_append] using nd
      rw [List.nodup_append] at e0
      have nd1 : (fpsOf ((es.map (Ent.kill i)).set i ⟨v, r, fp⟩)).Nodup := by
        refine fps_set_nodup ?_
        rw [fps_kill, List.nodup_append]
        rw [List.nodup_append] at e0
        exact ⟨e0.1, e0.2.1.2.1, fun a m b mb => e0.2.2 a m b (List.mem_append_right _ mb)⟩
      have sub1 : ∀ a ∈ fpsOf ((es.map (Ent.kill i)).set i ⟨v, r, fp⟩), a ∈ fpsOf es ∨ a ∈ fp := fun a m => by
        rcases fps_set_sub a m with q | q
        · rw [fps_kill] at q; exact .inl q
        · exact .inr q
      refine ⟨s.sub, ?_, fun a m => ?_, fun e m => ?_⟩
      · simp only [fpsOf, List.flatMap_append]
        rw [List.nodup_append]
        have e1 := e0.2.1
        rw [List.nodup_append] at e1
        refine ⟨nd1, e1.1, fun a m b mb z => ?_⟩
        rcases sub1 a m with q | q
        · exact e0.2.2 a q b (List.mem_append_left _ mb) z
        · exact e1.2.2 b mb a q z.symm
      · refine s.zf a ?_
        rcases fps_app.mp m with q | q
        · rcases sub1 a q with q | q
          · exact fps_app.mpr (.inl q)
          · exact fps_app.mpr (.inr (fps_app.mpr (.inr (by simpa using q))))
        · exact fps_app.mpr (.inr (fps_app.mpr (.inl q)))
      · -- entries
        have go : ∀ e, EntOk K Z H es e → (∀ j, e.s = .al j → j ≠ i) → EntOk K Z H ((es.map (Ent.kill i)).set i ⟨v, r, fp⟩) e := fun e ok ne => by
          unfold EntOk at ok ⊢
          split
          · rename_i hs; rw [hs] at ok; exact ok
          · rename_i d hs; rw [hs] at ok; exact ok
          · rename_i t d hs; rw [hs] at ok; exact ok
          · rename_i j hs
            rw [hs] at ok
            obtain ⟨q0, u, x, q1, q2, q3⟩ := ok
            refine ⟨q0, u.kill i, x, ?_, q2, q3⟩
            rw [List.getElem?_set_ne (fun z => ne j hs z.symm), List.getElem?_map, q1]; rfl
        rcases List.mem_append.mp m with q | q
        · rcases List.mem_or_eq_of_mem_set q with q | q
          · obtain ⟨u, mu, rfl⟩ := List.mem_map.mp q
            have ok := s.ok u (List.mem_append_left _ mu)
            cases hs : u.s with
            | al j =>
              by_cases z : j = i
              · have : (Ent.kill i u).s = .un := by show u.s.kill i = _; rw [hs]; simp [Sl.kill, z]
                unfold EntOk at ok ⊢
                rw [hs] at ok
                rw [this]
                exact ok.1
              · have e2 : Ent.kill i u = u := by
                  obtain ⟨a, b, c⟩ := u
                  dsimp only at hs; subst hs
                  simp [Ent.kill, Sl.kill, z]
                rw [e2]
                exact go u ok fun j' h' => by rw [hs] at h'; cases h'; exact z
            | _ =>
              have e2 : Ent.kill i u = u := by
                obtain ⟨a, b, c⟩ := u
                dsimp only at hs; subst hs
                rfl
              rw [e2]
              exact go u ok fun j' h' => by rw [hs] at h'; cases h'
          · subst q
            exact go _ okR fun j h' => fun z => same (by rw [← z]; exact h')
        · exact go e (s.ok e (List.mem_append_right _ (List.mem_append_left _ q))) (hts e q)
    · intro a m
      rcases fps_app.mp m with q | q
      · rcases fps_set_sub a q with q | q
        · rw [fps_kill] at q; exact fps_app.mpr (.inl q)
        · exact fps_app.mpr (.inr (fps_app.mpr (.inr (by simpa using q))))
      · exact fps_app.mpr (.inr (fps_app.mpr (.inl q)))
    · show ((es.map (Ent.kill i)).set i _).map Ent.v = _
      rw [List.map_set]
      congr 1
      rw [List.map_map]; rfl
    · show ((es.map (Ent.kill i)).set i _).map Ent.s = _
      rw [List.map_set]
      have e3 : (es.map (Ent.kill i)).map Ent.s = (ssOf es).map (Sl.kill i) := by rw [List.map_map, List.map_map]; rfl
      rw [e3]
      unfold setS
      cases r with
      | al j =>
        have : j ≠ i := fun z => same (by rw [z])
        simp [this]
      | _ => rfl
def kset (i : Nat) (r : Sl) (ss : List Sl) : So := if i < ss.length then .nx (setS i r ss) else .stuck
def fSet (i : Nat) (fe : FE) : FS := fun ss => (fe ss).so fun p => kset i p.1 p.2
theorem kept_set {i : Nat} {v : Option V} (h : i ∉ kp) : Kept kp σ (σ.set i v) := ⟨by simp, fun j m => by
  rw [List.getElem?_set_ne]
  intro z; subst z; exact h m⟩
theorem sk_set {i : Nat} {v : V} {r : Sl} {fp : List Addr} (hk : i ∉ kp) (s : Sat K Z H es [⟨some v, r, fp⟩]) (hv : vsOf es = σ) (k : SK K E kp σ Z H (fpsOf (es ++ [⟨some v, r, fp⟩])) (kset i r (ssOf es)) D) : D.nx (σ.set i (some v)) H := by
  unfold kset at k
  split at k
  · rename_i hi
    obtain ⟨es', s', h1, h2, h3⟩ := Sat.assign (ts := []) s (by simpa using hi) (by simp)
    have := k Z H es' (Step.refl fun a m => h1 a (by rw [List.append_nil]; exact m)) s' (by rw [h2, hv]; exact kept_set hk) h3
    rw [h2, hv] at this
    exact this
  · exact k.elim
theorem rs_set {i : Nat} {fe : FE} (hk : i ∉ kp) (h : RS K E kp (fSet i fe) D σ H) : tAsg (RE K E fe) (gName i) D σ H := by
  obtain ⟨Z, es, s, hv, k⟩ := h
  exact RE.so (ts := []) (n := fun p => kset i p.1 p.2) s hv (by rw [List.append_nil]; exact k) fun r Z2 H2 es2 v fp s2 hv2 k2 => sk_set hk s2 hv2 k2
end
end Mi

/-! M8: targets, loops. -/
namespace Mi
open PySem PySem.Spec PyProof.Rows L2 Rt
abbrev FG := Sl → FS
abbrev FI := List Sl → Ro (List D × List Sl)
instance (b : Sl) (i : Nat) : Decidable (∀ k, b = .al k → k ≠ i) := match b with
  | .al k => if h : k = i then isFalse fun z => z k rfl h else isTrue fun k' e => by cases e; exact h
  | .un => isTrue fun _ e => by cases e
  | .fz _ => isTrue fun _ e => by cases e
  | .ow _ _ => isTrue fun _ e => by cases e
abbrev goOn (R : L2.St → Hp → Prop) : Ends := { nx := R, rt := fun _ _ => False }
def RG (K : PySem.W.Frag) (E : EW) (kp : List Nat) (g : FG) : TG := fun v σ H R => ∃ Z es r fv, Sat K Z H es [⟨some v, r, fv⟩] ∧ vsOf es = σ ∧ SK K E kp σ Z H (fpsOf (es ++ [⟨some v, r, fv⟩])) (g r (ssOf es)) (goOn R)
def gsL : List FG → List D → FS
  | [], [], ss => .nx ss
  | g :: gs, d :: ds, ss => (g (.fz d) ss).seq (gsL gs ds)
  | _, _, _ => .stuck
def RGs (K : PySem.W.Frag) (E : EW) (kp : List Nat) (gs : List FG) : TGs := fun vs σ H R => ∃ Z es ds, Sat K Z H es [] ∧ FReps K Z vs ds ∧ vsOf es = σ ∧ SK K E kp σ Z H (fpsOf es) (gsL gs ds (ssOf es)) (goOn R)
def gN (i : Nat) : FG := fun r ss => kset i r ss
def gT (n : Nat) (gs : List FG) : FG := fun r ss => match r.val ss with
  | some (t, .tup ds) => if t.flat = true ∧ ds.length = n then gsL gs ds ss else .stuck
  | _ => .stuck
section
variable {K : PySem.W.Frag} {E : EW} {kp : List Nat} {σ σ1 : L2.St} {Z H Z' H' Z1 H1 : Hp} {F F1 : List Addr} {es ts us es1 : List Ent} {D D' : Ends} {o : So} {v : V} {R : L2.St → Hp → Prop}
theorem SK.ends (k : SK K E kp σ Z H F o D) (h1 : ∀ ss, o = .nx ss → ∀ Z' H' es', Step Z H F Z' H' (fpsOf es') → Sat K Z' H' es' [] → Kept kp σ (vsOf es') → ssOf es' = ss → D.nx (vsOf es') H' → D'.nx (vsOf es') H')
    (h2 : ∀ σ' H', D.bk σ' H' → D'.bk σ' H') (h3 : ∀ ss, o = .ct ss → ∀ Z' H' es', Step Z H F Z' H' (fpsOf es') → Sat K Z' H' es' [] → Kept kp σ (vsOf es') → ssOf es' = ss → D.ct (vsOf es') H' → D'.ct (vsOf es') H') (h4 : ∀ v H', D.rt v H' → D'.rt v H') : SK K E kp σ Z H F o D' := by
  unfold SK at k ⊢
  split at k
  · exact fun Z' H' es' a s b c => h1 _ rfl Z' H' es' a s b c (k Z' H' es' a s b c)
  · exact fun Z' H' es' a s b c => h2 _ _ (k Z' H' es' a s b c)
  · exact fun Z' H' es' a s b c => h3 _ rfl Z' H' es' a s b c (k Z' H' es' a s b c)
  · exact fun Z' H' es' v fv a s b c => h4 _ _ (k Z' H' es' v fv a s b c)
  · exact k
  · exact k
theorem rg_name {i : Nat} (hk : i ∉ kp) (h : RG K E kp (gN i) v σ H R) : gName i v σ H R := by
  obtain ⟨Z, es, r, fv, s, hv, k⟩ := h
  exact sk_set (D := goOn R) hk s hv k
theorem SK.of_seq {g : FS} (k : SK K E kp σ Z H F (o.seq g) (goOn R)) : SK K E kp σ Z H F o (goOn fun σ' H' => ∃ Z' es', Sat K Z' H' es' [] ∧ vsOf es' = σ' ∧ Step Z H F Z' H' (fpsOf es') ∧ Kept kp σ σ' ∧ o = .nx (ssOf es') ∧ SK K E kp σ' Z' H' (fpsOf es') (g (ssOf es')) (goOn R)) := by
  cases o with
  | nx ss =>
    intro Z' H' es' st s kd e
    refine ⟨Z', es', s, rfl, st, kd, by rw [e], ?_⟩
    rw [e]
    exact SK.from st kd k
  | rt r ss => exact fun Z' H' es' v fv a s b c => (k Z' H' es' v fv a s b c).elim
  | bk ss => exact fun Z' H' es' a s b c => (k Z' H' es' a s b c).elim
  | ct ss => exact fun Z' H' es' a s b c => (k Z' H' es' a s b c).elim
  | exc c fs ss => exact k
  | stuck => exact k
/-- .. with what is known of further values -/
theorem rgs_nil {vs : List V} (h : RGs K E kp [] vs σ H R) : gNil vs σ H R := by
  obtain ⟨Z, es, ds, s, fr, hv, k⟩ := h
  cases fr with
  | nil =>
    have := k Z H es (Step.refl fun _ m => m) s (by rw [hv]; exact Kept.refl _) rfl
    rw [hv] at this
    exact ⟨rfl, this⟩
  | cons _ _ => exact k.elim
theorem rgs_cons {g : FG} {gs : List FG} {vs : List V} (h : RGs K E kp (g :: gs) vs σ H R) : gCons (RG K E kp g) (RGs K E kp gs) vs σ H R := by
  obtain ⟨Z, es, ds, s, fr, hv, k⟩ := h
  cases fr with
  | nil => exact k.elim
  | cons q t =>
    rename_i v d vs ds
    refine ⟨v, vs, rfl, Z, es, .fz d, [], ⟨s.sub, ?_, fun a m => s.zf a ?_, fun e m => ?_⟩, hv, ?_⟩
    · simpa [fpsOf, List.flatMap_append] using s.nd
    · rcases fps_app.mp m with z | z
      · rw [List.append_nil]; exact z
      · simp at z
    · rcases List.mem_append.mp m with z | z
      · exact s.ok e (List.mem_append_left _ z)
      · obtain rfl := List.mem_singleton.mp z
        exact ⟨v, rfl, q, rfl⟩
    · have k' : SK K E kp σ Z H (fpsOf (es ++ [⟨some v, .fz d, []⟩])) ((g (.fz d) (ssOf es)).seq (gsL gs ds)) (goOn R) := SK.from (Step.refl fun a m => by rcases fps_app.mp m with z | z; exact z; simp at z) (Kept.refl _) k
      refine (SK.of_seq k').ends (fun ss _ Z' H' es' _ _ _ _ w => ?_) (fun _ _ w => w) (fun _ _ Z' H' es' _ _ _ _ w => w) (fun _ _ w => w)
      obtain ⟨Z2, es2, s2, hv2, st2, _, _, k2⟩ := w
      exact ⟨Z2, es2, ds, s2, t.mono st2.z, hv2, k2⟩
theorem rg_tup {n : Nat} {gs : List FG} (h : RG K E kp (gT n gs) v σ H R) : gTup K n (RGs K E kp gs) v σ H R := by
  obtain ⟨Z, es, r, fv, s, hv, k⟩ := h
  unfold gT at k
  split at k
  · rename_i t ds e
    split at k
    · rename_i hc
      obtain ⟨f, rp, _⟩ := s.val (e := ⟨some v, r, fv⟩) (by simp) rfl e
      obtain ⟨a, vs, rfl, q, fr⟩ := rep_tup hc.1 s.sub rp
      refine ⟨a, vs, rfl, q, by rw [fr.len]; exact hc.2, Z, es, ds, s.bare, fr, hv, SK.from (Step.refl fun a m => fps_app.mpr (.inl m)) (Kept.refl _) k⟩
    · exact k.elim
  · exact k.elim
def fAsg (g : FG) (fe : FE) : FS := fun ss => (fe ss).so fun p => g p.1 p.2
theorem SK.plain (k : SK K E kp σ Z H F o (goOn D.nx)) : SK K E kp σ Z H F o D := k.ends (fun _ _ _ _ _ _ _ _ _ w => w) (fun _ _ w => w.elim) (fun _ _ _ _ _ _ _ _ _ w => w.elim) (fun _ _ w => w.elim)
/-- an outcome of targets: on, or an error -/
def OnOnly (o : So) : Prop := match o with
  | .nx _ => True
  | .exc _ _ _ => True
  | .stuck => True
  | _ => False
theorem SK.only (ho : OnOnly o) (k : SK K E kp σ Z H F o D) : SK K E kp σ Z H F o (goOn D.nx) := by
  cases o with
  | nx ss => exact k
  | exc c fs ss => exact k
  | stuck => exact k
  | rt r ss => exact ho.elim
  | bk ss => exact ho.elim
  | ct ss => exact ho.elim
theorem on_set (i : Nat) (r : Sl) (ss : List Sl) : OnOnly (kset i r ss) := by unfold kset; split <;> trivial
theorem on_seq {o : So} {g : FS} (h : OnOnly o) (h2 : ∀ ss, OnOnly (g ss)) : OnOnly (o.seq g) := by
  cases o with
  | nx ss => exact h2 ss
  | exc c fs ss => trivial
  | stuck => trivial
  | rt r ss => exact h.elim
  | bk ss => exact h.elim
  | ct ss => exact h.elim
theorem on_gsL : ∀ (gs : List FG) (ds : List Mi.D) (ss : List Sl), (∀ g ∈ gs, ∀ r ss, OnOnly (g r ss)) → OnOnly (gsL gs ds ss)
  | [], [], _, _ => trivial
  | g :: gs, d :: ds, ss, h => on_seq (h g List.mem_cons_self _ _) fun ss' => on_gsL gs ds ss' fun g' m => h g' (List.mem_cons_of_mem _ m)
  | [], _ :: _, _, _ => trivial
  | _ :: _, [], _, _ => trivial
theorem on_gT {n : Nat} {gs : List FG} (h : ∀ g ∈ gs, ∀ r ss, OnOnly (g r ss)) (r : Sl) (ss : List Sl) : OnOnly (gT n gs r ss) := by
  unfold gT
  split
  · split
    · exact on_gsL _ _ _ h
    · trivial
  · trivial
theorem rs_asg {g : FG} {fe : FE} (ho : ∀ r ss, OnOnly (g r ss)) (h : RS K E kp (fAsg g fe) D σ H) : tAsg (RE K E fe) (RG K E kp g) D σ H := by
  obtain ⟨Z, es, s, hv, k⟩ := h
  refine RE.so (ts := []) (n := fun p => g p.1 p.2) s hv (by rw [List.append_nil]; exact k) fun r Z2 H2 es2 v fp s2 hv2 k2 => ?_
  exact ⟨Z2, es2, r, fp, s2, hv2, k2.only (ho _ _)⟩
/-- a, b = e1, e2 -/
def fPar (i j : Nat) (ft : FA) : FS := fun ss => (ft ss).so fun p => match p.1 with
  | [a, b] => if (∀ k, b = .al k → k ≠ i) ∧ i ≠ j then (kset i a p.2).seq fun s => kset j b s else .stuck
  | _ => .stuck
end
/-! ### while -/
/-- a turn's outcome, then what is to come -/
def So.loop (o : So) (g : FS) : So := match o with
  | .nx ss => g ss
  | .ct ss => g ss
  | .bk ss => .nx ss
  | o => o
def fWhileN (ft : FT) (f : FS) : Nat → FS
  | 0, _ => .stuck
  | n + 1, ss => (ft ss).so fun p => if p.1 = true then (f p.2).loop (fWhileN ft f n) else .nx p.2
open Classical in
noncomputable def fWhile (ft : FT) (f : FS) : FS := fun ss => if h : ∃ n, fWhileN ft f n ss ≠ .stuck then fWhileN ft f h.choose ss else .stuck
theorem loop_mono {o : So} {g g' : FS} (h : ∀ ss, g ss ≠ .stuck → g' ss = g ss) (n : o.loop g ≠ .stuck) : o.loop g' = o.loop g := by
  cases o <;> first | rfl | exact h _ n
theorem fWhileN_mono (ft : FT) (f : FS) : ∀ (n : Nat) (ss : List Sl), fWhileN ft f n ss ≠ .stuck → fWhileN ft f (n + 1) ss = fWhileN ft f n ss
  | 0, _, h => absurd rfl h
  | n + 1, ss, h => by
    unfold fWhileN at h
    show (ft ss).so (fun p => if p.1 = true then (f p.2).loop (fWhileN ft f (n + 1)) else .nx p.2) = (ft ss).so fun p => if p.1 = true then (f p.2).loop (fWhileN ft f n) else .nx p.2
    cases hf : ft ss with
    | exc c fs s => rfl
    | stuck => rfl
    | ok p =>
      rw [hf] at h
      unfold Ro.so at h ⊢
      dsimp only at h ⊢
      split
      · rename_i hp
        rw [if_pos hp] at h
        exact loop_mono (fWhileN_mono ft f n) h
      · rfl
theorem fWhileN_le (ft : FT) (f : FS) {n : Nat} {ss : List Sl} (h : fWhileN ft f n ss ≠ .stuck) : ∀ k, fWhileN ft f (n + k) ss = fWhileN ft f n ss
  | 0 => rfl
  | k + 1 => by
    have ih := fWhileN_le ft f h k
    rw [← Nat.add_assoc, fWhileN_mono ft f (n + k) ss (by rw [ih]; exact h), ih]
theorem fWhile_eqN (ft : FT) (f : FS) {n : Nat} {ss : List Sl} (h : fWhileN ft f n ss ≠ .stuck) : fWhile ft f ss = fWhileN ft f n ss := by
  have ex : ∃ n, fWhileN ft f n ss ≠ .stuck := ⟨n, h⟩
  unfold fWhile
  rw [dif_pos ex]
  have hc := ex.choose_spec
  rcases Nat.le_total n ex.choose with l | l
  · obtain ⟨k, e⟩ := Nat.exists_eq_add_of_le l
    rw [e, fWhileN_le ft f h]
  · obtain ⟨k, e⟩ := Nat.exists_eq_add_of_le l
    have := fWhileN_le ft f hc k
    rw [← e] at this
    exact this.symm
theorem fWhile_at (ft : FT) (f : FS) {ss : List Sl} (h : fWhile ft f ss ≠ .stuck) : ∃ n, fWhileN ft f n ss = fWhile ft f ss ∧ fWhileN ft f n ss ≠ .stuck := by
  by_cases ex : ∃ n, fWhileN ft f n ss ≠ .stuck
  · obtain ⟨n, hn⟩ := ex
    exact ⟨n, (fWhile_eqN ft f hn).symm, hn⟩
  · unfold fWhile at h
    rw [dif_neg ex] at h
    exact absurd rfl h
/-- the while's own equation -/
theorem fWhile_eq (ft : FT) (f : FS) (ss : List Sl) : fWhile ft f ss = (ft ss).so fun p => if p.1 = true then (f p.2).loop (fWhile ft f) else .nx p.2 := by
  cases hf : ft ss with
  | exc c fs s =>
    have : fWhileN ft f 1 ss = .exc c fs s := by unfold fWhileN; rw [hf]; rfl
    rw [fWhile_eqN ft f (n := 1) (by rw [this]; intro z; cases z), this]; rfl
  | stuck =>
    have : ∀ n, fWhileN ft f n ss = .stuck := fun n => by
      cases n with
      | zero => rfl
      | succ n => unfold fWhileN; rw [hf]; rfl
    unfold fWhile
    rw [dif_neg (fun ⟨n, h⟩ => h (this n))]; rfl
  | ok p =>
    have step : ∀ n, fWhileN ft f (n + 1) ss = if p.1 = true then (f p.2).loop (fWhileN ft f n) else .nx p.2 := fun n => by
      show (ft ss).so _ = _
      rw [hf]; rfl
    show _ = if p.1 = true then (f p.2).loop (fWhile ft f) else .nx p.2
    by_cases hp : p.1 = true
    · simp only [hp, if_true] at step ⊢
      have at_ : ∀ s, (fun n => fWhileN ft f n s) = fun n => fWhileN ft f n s := fun _ => rfl
      have key : ∀ s, (∀ n, fWhileN ft f (n + 1) ss = fWhileN ft f n s) → fWhile ft f ss = fWhile ft f s := fun s hs => by
        by_cases ex : ∃ n, fWhileN ft f n s ≠ .stuck
        · obtain ⟨n, hn⟩ := ex
          rw [fWhile_eqN ft f hn, fWhile_eqN ft f (n := n + 1) (by rw [hs]; exact hn), hs]
        · have e1 : fWhile ft f s = .stuck := by unfold fWhile; rw [dif_neg ex]
          have e2 : fWhile ft f ss = .stuck := by
            unfold fWhile
            rw [dif_neg]
            rintro ⟨n, hn⟩
            cases n with
            | zero => exact hn rfl
            | succ n => exact ex ⟨n, by rw [← hs]; exact hn⟩
          rw [e1, e2]
      cases ho : f p.2 with
      | nx s => rw [ho] at step; exact key s step
      | ct s => rw [ho] at step; exact key s step
      | bk s => rw [ho] at step; rw [fWhile_eqN ft f (n := 1) (by rw [step]; intro z; cases z), step]; rfl
      | rt r s => rw [ho] at step; rw [fWhile_eqN ft f (n := 1) (by rw [step]; intro z; cases z), step]; rfl
      | exc c fs s => rw [ho] at step; rw [fWhile_eqN ft f (n := 1) (by rw [step]; intro z; cases z), step]; rfl
      | stuck =>
        rw [ho] at step
        have : ∀ n, fWhileN ft f n ss = .stuck := fun n => by
          cases n with
          | zero => rfl
          | succ n => exact step n
        unfold fWhile
        rw [dif_neg (fun ⟨n, h⟩ => h (this n))]; rfl
    · have step' : fWhileN ft f 1 ss = .nx p.2 := by rw [step 0, if_neg hp]
      rw [if_neg hp, fWhile_eqN ft f (n := 1) (by rw [step']; intro z; cases z), step']
section
variable {K : PySem.W.Frag} {E : EW} {kp : List Nat} {σ σ1 : L2.St} {Z H Z' H' Z1 H1 : Hp} {F F1 : List Addr} {es ts us es1 : List Ent} {D D' : Ends} {o : So} {v : V} {R : L2.St → Hp → Prop}
/-- a turn's body -/
theorem SK.loop {g : FS} {N : L2.St → Hp → Prop} (hN : ∀ Z' H' es', Le Z Z' → Sat K Z' H' es' [] → SK K E kp (vsOf es') Z' H' (fpsOf es') (g (ssOf es')) D → N (vsOf es') H') (k : SK K E kp σ Z H F (o.loop g) D) : SK K E kp σ Z H F o { D with nx := N, ct := N, bk := D.nx } := by
  cases o with
  | nx ss =>
    intro Z' H' es' st s kd e
    refine hN Z' H' es' st.z s ?_
    rw [e]
    exact SK.from st kd k
  | ct ss =>
    intro Z' H' es' st s kd e
    refine hN Z' H' es' st.z s ?_
    rw [e]
    exact SK.from st kd k
  | bk ss => exact k
  | rt r ss => exact k
  | exc c fs ss => exact k
  | stuck => exact k
theorem rs_while {ft : FT} {f : FS} (h : RS K E kp (fWhile ft f) D σ H) : tWhile (RT K E ft) (RS K E kp f) D σ H := by
  obtain ⟨Z, es, s, hv, k⟩ := h
  have ns : fWhile ft f (ssOf es) ≠ .stuck := fun z => by rw [z] at k; exact k
  obtain ⟨n, hn, _⟩ := fWhile_at ft f ns
  rw [← hn] at k
  refine ⟨fun m σ H => ∃ Z es, Sat K Z H es [] ∧ vsOf es = σ ∧ SK K E kp σ Z H (fpsOf es) (fWhileN ft f m (ssOf es)) D, ⟨n, Z, es, s, hv, k⟩, ?_⟩
  rintro m σ H ⟨Z, es, s, hv, k⟩
  cases m with
  | zero => exact k.elim
  | succ m =>
    refine RT.so (ts := []) (n := fun p => if p.1 = true then (f p.2).loop (fWhileN ft f m) else .nx p.2) s hv (by rw [List.append_nil]; exact k) fun b Z1 H1 es1 s1 hv1 k1 => ?_
    rw [List.append_nil] at k1
    cases b with
    | true =>
      rw [if_pos rfl]
      refine ⟨fun σ' H' => ∃ Z es, Sat K Z H' es [] ∧ vsOf es = σ' ∧ SK K E kp σ' Z H' (fpsOf es) (fWhileN ft f m (ssOf es)) D, fun σ' H' q => ⟨m, Nat.lt_succ_self m, q⟩, RS.of s1 hv1 ?_⟩
      exact SK.loop (fun Z' H' es' _ s' k' => ⟨Z', es', s', rfl, k'⟩) k1
    | false =>
      rw [if_neg (by decide)]
      exact sk_nx (ts := []) s1 hv1 (by rw [List.append_nil]; exact k1)
/-! ### for -/
/-- what a walk yields -/
structure Walk (K : PySem.W.Frag) (Z0 : Hp) (J : It) (ds : List Mi.D) : Prop where
  go : ∀ i Z H, Le Z0 Z → Sub Z H → i < ds.length → J.go i H
  stop : ∀ Z H, Le Z0 Z → Sub Z H → J.stop ds.length H
  yld : ∀ i Z H x H' d, Le Z0 Z → Sub Z H → ds[i]? = some d → J.yld i H x H' → ∃ Z', New K Z H Z' H' x (.fz d) []
def RI (K : PySem.W.Frag) (E : EW) (f : FI) : TI := fun σ H R => ∃ Z es, Sat K Z H es [] ∧ vsOf es = σ ∧ Kon K E σ Z H (fpsOf es) (f (ssOf es)) (fun _ => []) fun ds Z' H' es' _ => ∀ J, Walk K Z' J ds → R J H'
def forD (g : FG) (f : FS) : List Mi.D → FS
  | [], ss => .nx ss
  | d :: ds, ss => (g (.fz d) ss).seq fun s => (f s).loop (forD g f ds)
def fFor (fi : FI) (g : FG) (f : FS) : FS := fun ss => (fi ss).so fun p => forD g f p.1 p.2
theorem RI.so {f : FI} {n : List Mi.D × List Sl → So} {R : It → Hp → Prop} (s : Sat K Z1 H1 es1 []) (hv : vsOf es1 = σ) (k : SK K E kp σ Z1 H1 (fpsOf es1) ((f (ssOf es1)).so n) D)
    (h : ∀ ds Z2 H2 es2 J, Walk K Z2 J ds → Sat K Z2 H2 es2 [] → vsOf es2 = σ → SK K E kp σ Z2 H2 (fpsOf es2) (n (ds, ssOf es2)) D → R J H2) : RI K E f σ H1 R := by
  refine ⟨Z1, es1, s, hv, ?_⟩
  refine kon_so (ts := []) (kp := kp) (D := D) s hv (by rw [List.append_nil]; exact k) fun a Z2 H2 es2 us e1 s2 e2 k2 J w => ?_
  obtain rfl : us = [] := by simpa using e1
  refine h a Z2 H2 es2 J w s2 e2 ?_
  simpa only [List.append_nil] using k2
theorem rs_for {fi : FI} {g : FG} {f : FS} (ho : ∀ r ss, OnOnly (g r ss)) (h : RS K E kp (fFor fi g f) D σ H) : tFor (RI K E fi) (RG K E kp g) (RS K E kp f) D σ H := by
  obtain ⟨Z, es, s, hv, k⟩ := h
  refine RI.so (n := fun p => forD g f p.1 p.2) s hv k fun ds Z2 H2 es2 J w s2 hv2 k2 => ?_
  refine ⟨fun i m σ H => m = ds.length - i ∧ i ≤ ds.length ∧ ∃ Z es, Le Z2 Z ∧ Sat K Z H es [] ∧ vsOf es = σ ∧ SK K E kp σ Z H (fpsOf es) (forD g f (ds.drop i) (ssOf es)) D,
    ⟨ds.length, by simp, Nat.zero_le _, Z2, es2, Le.refl _, s2, hv2, k2⟩, ?_⟩
  rintro i m σ H ⟨rfl, hi, Z, es, le, s, hv, k⟩
  by_cases hlt : i < ds.length
  · have e0 : ds.drop i = ds[i] :: ds.drop (i + 1) := List.drop_eq_getElem_cons hlt
    rw [e0] at k
    refine .inr ⟨w.go i Z H le s.sub hlt, fun σ' H' => ∃ Z es, Le Z2 Z ∧ Sat K Z H' es [] ∧ vsOf es = σ' ∧ SK K E kp σ' Z H' (fpsOf es) (forD g f (ds.drop (i + 1)) (ssOf es)) D,
      fun σ' H' q => ⟨ds.length - (i + 1), by omega, rfl, hlt, q⟩, fun x H' y => ?_⟩
    obtain ⟨Z', n⟩ := w.yld i Z H x H' ds[i] le s.sub (List.getElem?_eq_getElem hlt) y
    obtain ⟨s', st'⟩ := s.new (ts := []) n
    refine ⟨Z', es, .fz ds[i], [], s', hv, ?_⟩
    have k' : SK K E kp σ Z' H' (fpsOf (es ++ [⟨some x, .fz ds[i], []⟩])) ((g (.fz ds[i]) (ssOf es)).seq fun s => (f s).loop (forD g f (ds.drop (i + 1)))) D := SK.from (st'.wide fun a m => by rw [List.append_nil] at m; exact m) (Kept.refl _) k
    -- the target, then the body
    cases hg : g (.fz ds[i]) (ssOf es) with
    | nx ss1 =>
      rw [hg] at k'
      intro Z3 H3 es3 st3 s3 kd3 e3
      refine RS.of s3 rfl (SK.loop (g := forD g f (ds.drop (i + 1))) (D := D) (fun Z4 H4 es4 le4 s4 k4 => ⟨Z4, es4, le.tr (n.step.z.tr (st3.z.tr le4)), s4, rfl, k4⟩) ?_)
      rw [e3]
      exact SK.from st3 kd3 k'
    | exc c fs ss1 => rw [hg] at k'; exact k'
    | stuck => rw [hg] at k'; exact k'
    | rt r ss1 => have := ho (.fz ds[i]) (ssOf es); rw [hg] at this; exact this.elim
    | bk ss1 => have := ho (.fz ds[i]) (ssOf es); rw [hg] at this; exact this.elim
    | ct ss1 => have := ho (.fz ds[i]) (ssOf es); rw [hg] at this; exact this.elim
  · have e : i = ds.length := by omega
    subst e
    rw [List.drop_length] at k
    exact .inl ⟨w.stop Z H le s.sub, sk_nx (ts := []) s hv (by rw [List.append_nil]; exact k)⟩
end
end Mi

/-! M9: defs: what they promise; calls. -/
namespace Mi
open PySem PySem.Spec PyProof.Rows L2 Rt
inductive Fo where
  | ret (r : Sl) (as : List Sl) | exc (c : Str) (fs : List (Str × D)) (as : List Sl) | stuck
abbrev Fm := List Sl → Fo
def Vok (ts ts' : List Ent) : Prop := ts'.length = ts.length ∧ ∀ (k : Nat) (e e' : Ent), ts[k]? = some e → ts'[k]? = some e' → e'.s = .un ∨ e'.v = e.v
/-- what a def promises: as its function on entries says -/
def spM (K : PySem.W.Frag) (m : Fm) : Sp := fun vs H Q E0 => ∃ Z ts, Sat K Z H [] ts ∧ vsOf ts = vs.map some ∧ match m (ssOf ts) with
  | .ret r as' => ∀ Z' H' ts' v fv, Step Z H (fpsOf ts) Z' H' (fpsOf (ts' ++ [⟨some v, r, fv⟩])) → Sat K Z' H' ts' [⟨some v, r, fv⟩] → Vok ts ts' → ssOf ts' = as' → Q v H'
  | .exc c fs as' => ∀ Z' H' ts' d, Step Z H (fpsOf ts) Z' H' (fpsOf ts') → Sat K Z' H' ts' [] → Vok ts ts' → ssOf ts' = as' → ExcD K Z' H' d fs → E0 (.ref (He.ga K c)) (some d) H'
  | .stuck => False
def Sl.out (keep : Bool) : Sl → Sl
  | .al _ => .un
  | s => if keep then s else .un
def outs (kp : List Nat) : Nat → List Sl → List Sl
  | _, [] => []
  | i, s :: r => s.out (decide (i ∈ kp)) :: outs kp (i + 1) r
def finR (kp : List Nat) (np : Nat) (r : Sl) (ss : List Sl) : Fo := match r with
  | .al i => if i < np ∧ i ∈ kp then .ret (.al i) (outs kp 0 (ss.take np)) else match ss[i]? with
    | some (.fz d) => .ret (.fz d) (outs kp 0 (ss.take np))
    | some (.ow t d) => .ret (.ow t d) (outs kp 0 ((ss.set i .un).take np))
    | _ => .stuck
  | .un => .stuck
  | r => .ret r (outs kp 0 (ss.take np))
def finO (kp : List Nat) (np : Nat) (o : So) : Fo := match o with
  | .nx ss => if np ≤ ss.length then .ret (.fz .non) (outs kp 0 (ss.take np)) else .stuck
  | .rt r ss => if np ≤ ss.length then finR kp np r ss else .stuck
  | .exc c fs ss => if np ≤ ss.length then .exc c fs (outs kp 0 (ss.take np)) else .stuck
  | _ => .stuck
/-- the function of a def with n names, np parameters; kp: those that are given no other value -/
def body (n np : Nat) (kp : List Nat) (f : FS) : Fm := fun as => if as.length = np then finO kp np (f (as ++ List.replicate (n - np) .un)) else .stuck
section
variable {K : PySem.W.Frag} {E : EW} {kp : List Nat} {σ σ1 : L2.St} {Z H Z' H' Z1 H1 : Hp} {F F1 : List Addr} {es ts us es1 pre : List Ent} {v : V}
def Ent.out (keep : Bool) (e : Ent) : Ent := match e.s.out keep with
  | .un => ⟨e.v, .un, []⟩
  | s => ⟨e.v, s, e.fp⟩
def outsE (kp : List Nat) : Nat → List Ent → List Ent
  | _, [] => []
  | i, e :: r => e.out (decide (i ∈ kp)) :: outsE kp (i + 1) r
theorem out_s (k : Bool) (e : Ent) : (e.out k).s = e.s.out k := by
  unfold Ent.out
  split
  · rename_i h; exact h.symm
  · rfl
theorem out_v (k : Bool) (e : Ent) : (e.out k).v = e.v := by
  unfold Ent.out
  split <;> rfl
theorem outsE_s (kp : List Nat) : ∀ (i : Nat) (l : List Ent), ssOf (outsE kp i l) = outs kp i (ssOf l)
  | _, [] => rfl
  | i, e :: r => by
    show (e.out _).s :: ssOf (outsE kp (i + 1) r) = e.s.out _ :: outs kp (i + 1) (ssOf r)
    rw [outsE_s kp (i + 1) r, out_s]
theorem outsE_v (kp : List Nat) : ∀ (i : Nat) (l : List Ent), vsOf (outsE kp i l) = vsOf l
  | _, [] => rfl
  | i, e :: r => by
    show (e.out _).v :: vsOf (outsE kp (i + 1) r) = e.v :: vsOf r
    rw [outsE_v kp (i + 1) r, out_v]
theorem out_fp (k : Bool) (e : Ent) : (e.out k).fp = e.fp ∨ (e.out k).fp = [] := by
  unfold Ent.out
  split
  · exact .inr rfl
  · exact .inl rfl
theorem outsE_sub (kp : List Nat) : ∀ (i : Nat) (l : List Ent), (fpsOf (outsE kp i l)).Sublist (fpsOf l)
  | _, [] => .slnil
  | i, e :: r => by
    show ((e.out _).fp ++ fpsOf (outsE kp (i + 1) r)).Sublist (e.fp ++ fpsOf r)
    have ih := outsE_sub kp (i + 1) r
    rcases out_fp (decide (i ∈ kp)) e with h | h
    · rw [h]; exact List.Sublist.append_left ih _
    · rw [h]; exact ih.trans (List.sublist_append_right _ _)
theorem out_ok {k : Bool} {e : Ent} (ok : EntOk K Z H es e) : EntOk K Z H us (e.out k) := by
  obtain ⟨ev, s, fp⟩ := e
  cases s with
  | un => unfold EntOk at ok; dsimp only at ok; cases k <;> rfl
  | al i => cases k <;> rfl
  | fz d => cases k <;> first | rfl | exact ok
  | ow t d => cases k <;> first | rfl | exact ok
theorem outsE_mem (kp : List Nat) : ∀ {i : Nat} {l : List Ent} {e' : Ent}, e' ∈ outsE kp i l → ∃ e ∈ l, ∃ k, e' = e.out k
  | _, [], _, h => by cases h
  | i, e :: r, e', h => by
    rcases List.mem_cons.mp h with h | h
    · exact ⟨e, List.mem_cons_self, _, h⟩
    · obtain ⟨u, m, q⟩ := outsE_mem kp h
      exact ⟨u, List.mem_cons_of_mem _ m, q⟩
theorem outsE_len (kp : List Nat) : ∀ (i : Nat) (l : List Ent), (outsE kp i l).length = l.length
  | _, [] => rfl
  | i, e :: r => congrArg (· + 1) (outsE_len kp (i + 1) r)
theorem outsE_get (kp : List Nat) : ∀ {i : Nat} {l : List Ent} {j : Nat}, (outsE kp i l)[j]? = l[j]?.map fun e => e.out (decide (i + j ∈ kp))
  | _, [], _ => by simp [outsE]
  | i, e :: r, 0 => by simp [outsE]
  | i, e :: r, j + 1 => by
    have := outsE_get kp (i := i + 1) (l := r) (j := j)
    simp only [outsE, List.getElem?_cons_succ, this]
    rw [show i + 1 + j = i + (j + 1) by omega]
/-- a def's end: what its parameters are then -/
theorem Sat.outs {np : Nat} {r : Sl} {fv : List Addr} (s : Sat K Z H es [⟨some v, r, fv⟩]) (hr : ∀ i, r = .al i → i < np) : Sat K Z H (outsE kp 0 (es.take np)) [⟨some v, r, fv⟩] ∧ ∀ a ∈ fpsOf (outsE kp 0 (es.take np) ++ [⟨some v, r, fv⟩]), a ∈ fpsOf (es ++ [⟨some v, r, fv⟩]) := by
  have sl : (fpsOf (outsE kp 0 (es.take np))).Sublist (fpsOf es) := (outsE_sub kp 0 (es.take np)).trans (by
    have : es = es.take np ++ es.drop np := (List.take_append_drop np es).symm
    conv => rhs; rw [this]
    simp only [fpsOf, List.flatMap_append]
    exact List.sublist_append_left _ _)
  have sl2 : (fpsOf (outsE kp 0 (es.take np) ++ [⟨some v, r, fv⟩])).Sublist (fpsOf (es ++ [⟨some v, r, fv⟩])) := by
    simp only [fpsOf, List.flatMap_append] at sl ⊢
    exact List.Sublist.append_right sl _
  refine ⟨⟨s.sub, sl2.nodup s.nd, fun a m => s.zf a (sl2.subset m), fun e m => ?_⟩, fun a m => sl2.subset m⟩
  rcases List.mem_append.mp m with q | q
  · obtain ⟨u, mu, k, rfl⟩ := outsE_mem kp q
    exact out_ok (s.ok u (List.mem_append_left _ (List.mem_of_mem_take mu)))
  · obtain rfl := List.mem_singleton.mp q
    have ok := s.ok ⟨some v, r, fv⟩ (by simp)
    cases r with
    | un => exact ok
    | fz d => exact ok
    | ow t d => exact ok
    | al i =>
      obtain ⟨h0, u, x, h1, h2, h3⟩ := ok
      have hi := hr i rfl
      refine ⟨h0, u.out (decide (0 + i ∈ kp)), x, ?_, by rw [out_v]; exact h2, h3⟩
      rw [outsE_get, List.getElem?_take, if_pos hi, h1]; rfl
theorem Sat.outs0 {np : Nat} (s : Sat K Z H es []) : Sat K Z H (outsE kp 0 (es.take np)) [] ∧ ∀ a ∈ fpsOf (outsE kp 0 (es.take np)), a ∈ fpsOf es := by
  have sn : Sat K Z H es [⟨some .non, .fz .non, []⟩] := by
    have := (s.new (New.leaf s.sub (.non (K := K)))).1
    simpa using this
  obtain ⟨h1, h2⟩ := sn.outs (kp := kp) (np := np) (fun i z => by cases z)
  refine ⟨h1.bare, fun a m => ?_⟩
  have := h2 a (fps_app.mpr (.inl m))
  rcases fps_app.mp this with q | q
  · exact q
  · simp at q
theorem vok_outs {np : Nat} {vs : List V} {ts es' : List Ent} (hl : ts.length = np) (ht : vsOf ts = vs.map some) (hk : Kept kp (vs.map some ++ List.replicate n none) (vsOf es')) (hn : np ≤ es'.length) : Vok ts (outsE kp 0 (es'.take np)) := by
  refine ⟨by rw [outsE_len, List.length_take]; omega, fun k e e' h1 h2 => ?_⟩
  rw [outsE_get] at h2
  have hkn : k < np := by rw [← hl]; exact (List.getElem?_eq_some_iff.mp h1).1
  rw [List.getElem?_take, if_pos hkn] at h2
  obtain ⟨u, h3, rfl⟩ := Option.map_eq_some_iff.mp h2
  by_cases q : k ∈ kp
  · right
    rw [out_v]
    have := hk.2 k q
    rw [List.getElem?_map, h3, ← ht, List.getElem?_append_left (by simp [hl]; exact hkn), List.getElem?_map, h1] at this
    simpa using this
  · left
    rw [out_s]
    have : decide (0 + k ∈ kp) = false := by simp [q]
    rw [this]
    cases u.s <;> rfl
/-- one value that is owned by name i moves out of it -/
theorem Sat.lend1 {i : Nat} {e : Ent} {t : Tg} {d : D} {w : Option V} {fp : List Addr} (s : Sat K Z H es (pre ++ ⟨w, .al i, fp⟩ :: us)) (he : es[i]? = some e) (hs : e.s = .ow t d) :
    Sat K Z H (es.set i ⟨e.v, .un, []⟩) (pre ++ ⟨w, .ow t d, e.fp⟩ :: us) ∧ (fpsOf (es.set i ⟨e.v, .un, []⟩ ++ (pre ++ ⟨w, .ow t d, e.fp⟩ :: us))).Perm (fpsOf (es ++ (pre ++ ⟨w, .al i, fp⟩ :: us))) := by
  have okA := s.ok ⟨w, .al i, fp⟩ (by simp)
  obtain ⟨h0, u, x, h1, h2, h3⟩ := okA
  rw [he] at h1; cases h1
  dsimp only at h0 h3
  subst h0 h3
  have hi : i < es.length := (List.getElem?_eq_some_iff.mp he).1
  have de : es = es.take i ++ e :: es.drop (i + 1) := by
    have := List.take_append_drop i es
    rw [List.drop_eq_getElem_cons hi] at this
    rw [(List.getElem?_eq_some_iff.mp he).2] at this
    exact this.symm
  have ds : es.set i ⟨e.v, .un, []⟩ = es.take i ++ ⟨e.v, .un, []⟩ :: es.drop (i + 1) := by
    rw [List.set_eq_take_append_cons_drop, if_pos hi]
  have pm : (fpsOf (es.set i ⟨e.v, .un, []⟩ ++ (pre ++ ⟨some x, .ow t d, e.fp⟩ :: us))).Perm (fpsOf (es ++ (pre ++ ⟨some x, .al i, []⟩ :: us))) := by
    rw [ds]
    conv => rhs; rw [de]
    simp only [fpsOf, List.flatMap_append, List.flatMap_cons]
    rw [List.perm_iff_count]
    intro a
    simp only [List.count_append, List.nil_append, List.count_nil]
    omega
  have oke := s.ok e (List.mem_append_left _ (List.mem_of_getElem? he))
  refine ⟨⟨s.sub, pm.symm.nodup s.nd, fun a m => s.zf a (pm.subset m), fun e' m => ?_⟩, pm⟩
  have hv : vsOf (es.set i ⟨e.v, .un, []⟩) = vsOf es := by
    show (es.set i _).map Ent.v = _
    rw [List.map_set]
    apply List.ext_getElem?
    intro j
    rw [List.getElem?_set]
    split
    · rename_i q; subst q; rw [List.getElem?_map, he]; simp [hi]
    · rfl
  have go : ∀ e', EntOk K Z H es e' → EntOk K Z H (es.set i ⟨e.v, .un, []⟩) e' := fun e' ok => ok.frame (Le.refl _) (fun _ _ _ q => q) hv
  rcases List.mem_append.mp m with q | q
  · rcases List.mem_or_eq_of_mem_set q with q | q
    · exact go e' (s.ok e' (List.mem_append_left _ q))
    · subst q; rfl
  · rcases List.mem_append.mp q with q | q
    · exact go e' (s.ok e' (List.mem_append_right _ (List.mem_append_left _ q)))
    · rcases List.mem_cons.mp q with q | q
      · subst q
        unfold EntOk at oke ⊢
        rw [hs] at oke
        obtain ⟨y, q1, q2⟩ := oke
        rw [h2] at q1; cases q1
        exact ⟨x, rfl, q2⟩
      · exact go e' (s.ok e' (List.mem_append_right _ (List.mem_append_right _ (List.mem_cons_of_mem _ q))))
/-- .. and back -/
theorem Sat.back1 {i : Nat} {e u : Ent} (s : Sat K Z H es (pre ++ u :: us)) (he : es[i]? = some e) (hs : e.s = .un) (hv : u.v = e.v) (hu : ∀ j, u.s ≠ .al j) :
    Sat K Z H (es.set i u) (pre ++ us) ∧ (fpsOf (es.set i u ++ (pre ++ us))).Perm (fpsOf (es ++ (pre ++ u :: us))) := by
  have hi : i < es.length := (List.getElem?_eq_some_iff.mp he).1
  have oke := s.ok e (List.mem_append_left _ (List.mem_of_getElem? he))
  have h0 : e.fp = [] := by unfold EntOk at oke; rw [hs] at oke; exact oke
  have de : es = es.take i ++ e :: es.drop (i + 1) := by
    have := List.take_append_drop i es
    rw [List.drop_eq_getElem_cons hi] at this
    rw [(List.getElem?_eq_some_iff.mp he).2] at this
    exact this.symm
  have ds : es.set i u = es.take i ++ u :: es.drop (i + 1) := by
    rw [List.set_eq_take_append_cons_drop, if_pos hi]
  have pm : (fpsOf (es.set i u ++ (pre ++ us))).Perm (fpsOf (es ++ (pre ++ u :: us))) := by
    rw [ds]
    conv => rhs; rw [de]
    simp only [fpsOf, List.flatMap_append, List.flatMap_cons, h0]
    rw [List.perm_iff_count]
    intro a
    simp only [List.count_append, List.nil_append, List.count_nil]
    omega
  have hvs : vsOf (es.set i u) = vsOf es := by
    show (es.set i _).map Ent.v = _
    rw [List.map_set]
    apply List.ext_getElem?
    intro j
    rw [List.getElem?_set]
    split
    · rename_i q; subst q; rw [List.getElem?_map, he]; simp [hi, hv]
    · rfl
  have go : ∀ e', EntOk K Z H es e' → EntOk K Z H (es.set i u) e' := fun e' ok => ok.frame (Le.refl _) (fun _ _ _ q => q) hvs
  refine ⟨⟨s.sub, pm.symm.nodup s.nd, fun a m => s.zf a (pm.subset m), fun e' m => go e' ?_⟩, pm⟩
  rcases List.mem_append.mp m with q | q
  · rcases List.mem_or_eq_of_mem_set q with q | q
    · exact s.ok e' (List.mem_append_left _ q)
    · subst q; exact s.ok _ (by simp)
  · rcases List.mem_append.mp q with q | q
    · exact s.ok e' (List.mem_append_right _ (List.mem_append_left _ q))
    · exact s.ok e' (List.mem_append_right _ (List.mem_append_right _ (List.mem_cons_of_mem _ q)))
end
end Mi

/-! M10: a def keeps its promise; calls. -/
namespace Mi
open PySem PySem.Spec PyProof.Rows L2 Rt
section
variable {K : PySem.W.Frag} {E : EW} {kp : List Nat} {σ σ1 : L2.St} {Z H Z' H' Z1 H1 : Hp} {F F1 : List Addr} {es ts us es1 pre : List Ent} {v : V} {Q : VK}
theorem fps_rep (n : Nat) : fpsOf (List.replicate n (⟨none, .un, []⟩ : Ent)) = [] := by
  induction n with
  | zero => rfl
  | succ n ih => rw [List.replicate_succ]; show [] ++ fpsOf _ = []; rw [ih]; rfl
theorem EntOk.grow {e : Ent} (ok : EntOk K Z H [] e) : EntOk K Z H es e := ok.any
theorem body_ok {N : List Str} {n np : Nat} {f : FS} {vs : List V} {E0 : XK} (hN : N.length = n) (h : spM K (body n np kp f) vs H Q E0) : RS K (fun _ => E0) kp f { nx := fun _ H' => Q .non H', rt := Q } (L2.start N vs) H := by
  obtain ⟨Z, ts, s, hv, k⟩ := h
  unfold body at k
  by_cases hl : (ssOf ts).length = np
  · rw [if_pos hl] at k
    have hl' : ts.length = np := by simpa using hl
    have hvl : vs.length = np := by
      have := congrArg List.length hv
      simp at this; omega
    -- the entry
    let es := ts ++ List.replicate (n - np) (⟨none, .un, []⟩ : Ent)
    have ef : fpsOf es = fpsOf ts := by
      show fpsOf (ts ++ _) = _
      simp only [fpsOf, List.flatMap_append]
      have := fps_rep (n - np)
      unfold fpsOf at this
      rw [this, List.append_nil]
    have ss : Sat K Z H es [] := by
      refine ⟨s.sub, ?_, fun a m => s.zf a ?_, fun e m => ?_⟩
      · rw [List.append_nil, ef]
        simpa using s.nd
      · rw [List.append_nil, ef] at m
        simpa using m
      · rw [List.append_nil] at m
        rcases List.mem_append.mp m with q | q
        · exact (s.ok e (by simpa using q)).any
        · rw [(List.mem_replicate.mp q).2]; rfl
    have hvs : vsOf es = L2.start N vs := by
      show (ts ++ List.replicate (n - np) _).map Ent.v = _
      rw [List.map_append, List.map_replicate]
      show vsOf ts ++ _ = _
      rw [hv]
      unfold L2.start
      rw [hN, hvl]
    have hss : ssOf es = ssOf ts ++ List.replicate (n - np) .un := by
      show (ts ++ List.replicate (n - np) _).map Ent.s = _
      rw [List.map_append, List.map_replicate]
    refine RS.of ss hvs ?_
    rw [hss]
    have np_le : ∀ es' : List Ent, Kept kp (L2.start N vs) (vsOf es') → True := fun _ _ => trivial
    have st0 : ∀ {Z' H' : Hp} {F' : List Addr}, Step Z H (fpsOf es) Z' H' F' → Step Z H (fpsOf ts) Z' H' F' := fun st => by rw [← ef]; exact st
    have kst : ∀ es', Kept kp (L2.start N vs) (vsOf es') → Kept kp (vs.map some ++ List.replicate (n - np) none) (vsOf es') := fun es' q => by
      unfold L2.start at q
      rw [hN, hvl] at q
      exact q
    have len_of : ∀ {es' : List Ent} {s1 : List Sl}, ssOf es' = s1 → np ≤ s1.length → np ≤ es'.length := fun e l => by rw [← e] at l; simpa using l
    cases hf : f (ssOf ts ++ List.replicate (n - np) .un) with
    | stuck => rw [hf] at k; exact k
    | bk ss => rw [hf] at k; exact k.elim
    | ct ss => rw [hf] at k; exact k.elim
    | nx s1 =>
      rw [hf] at k
      unfold finO at k
      dsimp only at k
      by_cases hnp : np ≤ s1.length
      · rw [if_pos hnp] at k
        intro Z' H' es' st s' kd e
        have sn : Sat K Z' H' es' [⟨some .non, .fz .non, []⟩] := by simpa using (s'.new (New.leaf s'.sub (.non (K := K)))).1
        obtain ⟨h1, h2⟩ := sn.outs (kp := kp) (np := np) (fun i z => by cases z)
        refine k Z' H' _ .non [] ((st0 st).less fun a m => ?_) h1 (vok_outs hl' hv (kst es' kd) (len_of e hnp)) (by rw [outsE_s, ← e]; simp [List.map_take])
        have := h2 a m
        rcases fps_app.mp this with q | q
        · exact q
        · simp at q
      · rw [if_neg hnp] at k; exact k.elim
    | exc c fs s1 =>
      rw [hf] at k
      unfold finO at k
      dsimp only at k
      by_cases hnp : np ≤ s1.length
      · rw [if_pos hnp] at k
        intro Z' H' es' d st s' kd e ed
        obtain ⟨h1, h2⟩ := s'.outs0 (kp := kp) (np := np)
        exact k Z' H' _ d ((st0 st).less h2) h1 (vok_outs hl' hv (kst es' kd) (len_of e hnp)) (by rw [outsE_s, ← e]; simp [List.map_take]) ed
      · rw [if_neg hnp] at k; exact k.elim
    | rt r s1 =>
      rw [hf] at k
      unfold finO at k
      dsimp only at k
      by_cases hnp : np ≤ s1.length
      · rw [if_pos hnp] at k
        intro Z' H' es' v fv st s' kd e
        have direct : ∀ r', r = r' → (∀ i, r' = .al i → i < np) → (∀ Z' H' ts' v fv, Step Z H (fpsOf ts) Z' H' (fpsOf (ts' ++ [⟨some v, r', fv⟩])) → Sat K Z' H' ts' [⟨some v, r', fv⟩] → Vok ts ts' → ssOf ts' = outs kp 0 (s1.take np) → Q v H') → Q v H' := by
          rintro r' rfl hal kk
          obtain ⟨h1, h2⟩ := s'.outs (kp := kp) (np := np) hal
          exact kk Z' H' _ v fv ((st0 st).less h2) h1 (vok_outs hl' hv (kst es' kd) (len_of e hnp)) (by rw [outsE_s, ← e]; simp [List.map_take])
        unfold finR at k
        cases r with
        | un => exact k.elim
        | fz d => exact direct _ rfl (fun i z => by cases z) k
        | ow t d => exact direct _ rfl (fun i z => by cases z) k
        | al i =>
          dsimp only at k
          by_cases hc : i < np ∧ i ∈ kp
          · rw [if_pos hc] at k
            exact direct _ rfl (fun j z => by cases z; exact hc.1) k
          · rw [if_neg hc] at k
            obtain ⟨h0, u, x, g1, g2, g3⟩ := s'.ok ⟨some v, .al i, fv⟩ (by simp)
            cases g3
            have e1 : s1[i]? = some u.s := by rw [← e, List.getElem?_map, g1]; rfl
            rw [e1] at k
            cases hs : u.s with
            | un => rw [hs] at k; exact k.elim
            | al j => rw [hs] at k; exact k.elim
            | fz d =>
              rw [hs] at k
              have oku := s'.ok u (List.mem_append_left _ (List.mem_of_getElem? g1))
              unfold EntOk at oku
              rw [hs] at oku
              obtain ⟨y, q1, q2, q3⟩ := oku
              rw [g2] at q1; cases q1
              have sn : Sat K Z' H' es' [⟨some v, .fz d, []⟩] := by simpa using (s'.bare.new (New.fz s'.sub q2)).1
              obtain ⟨h1, h2⟩ := sn.outs (kp := kp) (np := np) (fun i z => by cases z)
              refine k Z' H' _ v [] ((st0 st).less fun a m => ?_) h1 (vok_outs hl' hv (kst es' kd) (len_of e hnp)) (by rw [outsE_s, ← e]; simp [List.map_take])
              rcases fps_app.mp (h2 a m) with q | q
              · exact fps_app.mpr (.inl q)
              · simp at q
            | ow t d =>
              rw [hs] at k
              obtain ⟨sl, pm⟩ := Sat.lend1 (pre := []) (us := []) s' g1 hs
              obtain ⟨h1, h2⟩ := Sat.outs (kp := kp) (np := np) sl (fun i z => by cases z)
              have hvs' : vsOf (es'.set i ⟨u.v, .un, []⟩) = vsOf es' := by
                show (es'.set i _).map Ent.v = _
                rw [List.map_set]
                apply List.ext_getElem?
                intro j
                rw [List.getElem?_set]
                split
                · rename_i q; subst q; rw [List.getElem?_map, g1]; simp [(List.getElem?_eq_some_iff.mp g1).1]
                · rfl
              refine k Z' H' _ v u.fp ((st0 st).less fun a m => pm.subset (h2 a m)) h1 (vok_outs hl' hv (kst _ (by rw [hvs']; exact kd)) (by rw [List.length_set]; exact len_of e hnp)) ?_
              rw [outsE_s, ← e]
              show outs kp 0 (((es'.set i _).take np).map Ent.s) = _
              rw [List.map_take, List.map_set]
      · rw [if_neg hnp] at k; exact k.elim
  · rw [if_neg hl] at k
    exact k.elim
end
end Mi

/-! M11: calls. -/
namespace Mi
open PySem PySem.Spec PyProof.Rows L2 Rt
def lend : List Sl → List Sl → Option (List Sl × List Sl)
  | [], ss => some ([], ss)
  | .al i :: r, ss => match ss[i]? with
    | some (.ow t d) => (lend r (ss.set i .un)).map fun p => (.ow t d :: p.1, p.2)
    | some (.fz d) => (lend r ss).map fun p => (.fz d :: p.1, p.2)
    | _ => none
  | .un :: _, _ => none
  | .fz d :: r, ss => (lend r ss).map fun p => (.fz d :: p.1, p.2)
  | .ow t d :: r, ss => (lend r ss).map fun p => (.ow t d :: p.1, p.2)
/-- what was lent comes back: rs as it was asked for, ls as it was lent, as as it comes -/
def back : List Sl → List Sl → List Sl → List Sl → List Sl
  | .al i :: r, .ow _ _ :: l, .fz d :: as, ss => back r l as (ss.set i (.fz d))
  | .al i :: r, .ow _ _ :: l, .ow t d :: as, ss => back r l as (ss.set i (.ow t d))
  | _ :: r, _ :: l, _ :: as, ss => back r l as ss
  | _, _, _, ss => ss
def resOf (rs as' : List Sl) (r : Sl) : Option Sl := match r with
  | .al k => match rs[k]?, as'[k]? with
    | some (.al i), some (.ow _ _) => some (.al i)
    | some (.al i), some (.fz _) => some (.al i)
    | _, _ => none
  | .un => none
  | r => some r
def noAl : List Sl → Bool
  | [] => true
  | .al _ :: _ => false
  | _ :: r => noAl r
def kcall (m : Fm) (rs ss : List Sl) : Ro (Sl × List Sl) := match lend rs ss with
  | none => .stuck
  | some (as, s1) => match m as with
    | .ret r as' => if noAl as' = true then (match resOf rs as' r with
      | some r' => .ok (r', back rs as as' s1)
      | none => .stuck) else .stuck
    | .exc c fs as' => if noAl as' = true then .exc c fs (back rs as as' s1) else .stuck
    | .stuck => .stuck
def fCall (m : Fm) (dvs : List D) (ft : FA) : FE := fun ss => (ft ss).bind fun p => kcall m (p.1 ++ dvs.map .fz) p.2
section
variable {K : PySem.W.Frag} {E : EW} {kp : List Nat} {σ σ1 : L2.St} {Z H Z' H' Z1 H1 : Hp} {F F1 : List Addr} {es ts us es1 pre : List Ent} {v : V} {Q : VK}
def NoAl (l : List Ent) : Prop := ∀ e ∈ l, ∀ j, e.s ≠ .al j
theorem Sat.lend : ∀ {us pre : List Ent} {es : List Ent} {as s1 : List Sl}, Sat K Z H es (pre ++ us) → Mi.lend (ssOf us) (ssOf es) = some (as, s1) →
    ∃ us' es', Sat K Z H es' (pre ++ us') ∧ ssOf us' = as ∧ ssOf es' = s1 ∧ vsOf us' = vsOf us ∧ vsOf es' = vsOf es ∧ NoAl us' ∧ (∀ e ∈ us', e.s ≠ .un) ∧ (fpsOf (es' ++ (pre ++ us'))).Perm (fpsOf (es ++ (pre ++ us)))
  | [], pre, es, as, s1, s, h => by
    cases h
    exact ⟨[], es, s, rfl, rfl, rfl, rfl, fun _ m => (by cases m), fun _ m => (by cases m), .refl _⟩
  | u :: us, pre, es, as, s1, s, h => by
    have keep : ∀ (u' : Ent) (es1 : List Ent) (as1 : List Sl), Sat K Z H es1 (pre ++ u' :: us) → u'.v = u.v → (∀ j, u'.s ≠ .al j) → u'.s ≠ .un → vsOf es1 = vsOf es → (fpsOf (es1 ++ (pre ++ u' :: us))).Perm (fpsOf (es ++ (pre ++ u :: us))) → Mi.lend (ssOf us) (ssOf es1) = some (as1, s1) → as = u'.s :: as1 →
        ∃ us' es', Sat K Z H es' (pre ++ us') ∧ ssOf us' = as ∧ ssOf es' = s1 ∧ vsOf us' = vsOf (u :: us) ∧ vsOf es' = vsOf es ∧ NoAl us' ∧ (∀ e ∈ us', e.s ≠ .un) ∧ (fpsOf (es' ++ (pre ++ us'))).Perm (fpsOf (es ++ (pre ++ u :: us))) := by
      intro u' es1 as1 s' hv na nu hve pm hl ha
      obtain ⟨us', es', g1, g2, g3, g4, g5, g6, g8, g7⟩ := Sat.lend (us := us) (pre := pre ++ [u']) (by simpa using s') hl
      refine ⟨u' :: us', es', by simpa using g1, by rw [ha, ← g2]; rfl, g3, ?_, g5.trans hve, ?_, ?_, ?_⟩
      · show u'.v :: vsOf us' = u.v :: vsOf us
        rw [hv, g4]
      · intro e m
        rcases List.mem_cons.mp m with q | q
        · subst q; exact na
        · exact g6 e q
      · intro e m
        rcases List.mem_cons.mp m with q | q
        · subst q; exact nu
        · exact g8 e q
      · have : (fpsOf (es' ++ (pre ++ u' :: us'))).Perm (fpsOf (es1 ++ (pre ++ u' :: us))) := by simpa using g7
        exact this.trans pm
    have eu : ssOf (u :: us) = u.s :: ssOf us := rfl
    rw [eu] at h
    cases hs : u.s with
    | un => rw [hs] at h; cases h
    | fz d =>
      rw [hs] at h
      obtain ⟨⟨a1, s2⟩, e1, e2⟩ := Option.map_eq_some_iff.mp h
      cases e2
      exact keep u es a1 s rfl (by rw [hs]; intro j z; cases z) (by rw [hs]; intro z; cases z) rfl (.refl _) e1 (by rw [hs])
    | ow t d =>
      rw [hs] at h
      obtain ⟨⟨a1, s2⟩, e1, e2⟩ := Option.map_eq_some_iff.mp h
      cases e2
      exact keep u es a1 s rfl (by rw [hs]; intro j z; cases z) (by rw [hs]; intro z; cases z) rfl (.refl _) e1 (by rw [hs])
    | al i =>
      rw [hs] at h
      unfold Mi.lend at h
      obtain ⟨uv, us0, uf⟩ := u
      obtain rfl : us0 = .al i := hs
      obtain ⟨h0, w, x, g1, g2, g3⟩ := s.ok ⟨uv, .al i, uf⟩ (by simp)
      dsimp only at h0 g3
      subst h0 g3
      rw [show (ssOf es)[i]? = some w.s by rw [List.getElem?_map, g1]; rfl] at h
      cases hw : w.s with
      | un => rw [hw] at h; cases h
      | al j => rw [hw] at h; cases h
      | ow t d =>
        rw [hw] at h
        dsimp only at h
        obtain ⟨⟨a1, s2⟩, e1, e2⟩ := Option.map_eq_some_iff.mp h
        cases e2
        obtain ⟨s', pm⟩ := s.lend1 g1 hw
        refine keep ⟨some x, .ow t d, w.fp⟩ _ a1 s' rfl (by intro j z; cases z) (by intro z; cases z) ?_ pm ?_ rfl
        · show (es.set i _).map Ent.v = _
          rw [List.map_set]
          apply List.ext_getElem?
          intro j
          rw [List.getElem?_set]
          split
          · rename_i q; subst q; rw [List.getElem?_map, g1]; simp [(List.getElem?_eq_some_iff.mp g1).1]
          · rfl
        · show Mi.lend (ssOf us) ((es.set i _).map Ent.s) = _
          rw [List.map_set]; exact e1
      | fz d =>
        rw [hw] at h
        dsimp only at h
        obtain ⟨⟨a1, s2⟩, e1, e2⟩ := Option.map_eq_some_iff.mp h
        cases e2
        have okw := s.ok w (List.mem_append_left _ (List.mem_of_getElem? g1))
        unfold EntOk at okw
        rw [hw] at okw
        obtain ⟨y, q1, q2, q3⟩ := okw
        rw [g2] at q1; cases q1
        have ef : fpsOf (es ++ (pre ++ ⟨some x, .fz d, []⟩ :: us)) = fpsOf (es ++ (pre ++ ⟨some x, .al i, []⟩ :: us)) := by simp [fpsOf, List.flatMap_append]
        refine keep ⟨some x, .fz d, []⟩ es a1 ⟨s.sub, by rw [ef]; exact s.nd, fun a m => s.zf a (by rw [← ef]; exact m), fun e m => ?_⟩ rfl (by intro j z; cases z) (by intro z; cases z) rfl (by rw [ef]) e1 rfl
        rcases List.mem_append.mp m with q | q
        · exact s.ok e (List.mem_append_left _ q)
        · rcases List.mem_append.mp q with q | q
          · exact s.ok e (List.mem_append_right _ (List.mem_append_left _ q))
          · rcases List.mem_cons.mp q with q | q
            · subst q; exact ⟨x, rfl, q2, rfl⟩
            · exact s.ok e (List.mem_append_right _ (List.mem_append_right _ (List.mem_cons_of_mem _ q)))
theorem vs_set {i : Nat} {e u : Ent} (h : es[i]? = some e) (hv : u.v = e.v) : vsOf (es.set i u) = vsOf es := by
  show (es.set i _).map Ent.v = _
  rw [List.map_set]
  apply List.ext_getElem?
  intro j
  rw [List.getElem?_set]
  split
  · rename_i q; subst q; rw [List.getElem?_map, h]; simp [(List.getElem?_eq_some_iff.mp h).1, hv]
  · rfl
/-- a temporary is let go -/
theorem Sat.dropM {u : Ent} (s : Sat K Z H es (pre ++ u :: us)) : Sat K Z H es (pre ++ us) ∧ (fpsOf (es ++ (pre ++ us))).Sublist (fpsOf (es ++ (pre ++ u :: us))) := by
  have sl : (fpsOf (es ++ (pre ++ us))).Sublist (fpsOf (es ++ (pre ++ u :: us))) := by
    simp only [fpsOf, List.flatMap_append, List.flatMap_cons]
    exact List.Sublist.append_left (List.Sublist.append_left (List.sublist_append_right _ _) _) _
  refine ⟨⟨s.sub, sl.nodup s.nd, fun a m => s.zf a (sl.subset m), fun e m => s.ok e ?_⟩, sl⟩
  rcases List.mem_append.mp m with q | q
  · exact List.mem_append_left _ q
  · rcases List.mem_append.mp q with q | q
    · exact List.mem_append_right _ (List.mem_append_left _ q)
    · exact List.mem_append_right _ (List.mem_append_right _ (List.mem_cons_of_mem _ q))
/-- the slots that were lent from, as they stood -/
def Lent (es0 es : List Ent) : Prop := ∀ (i : Nat) (e : Ent), es[i]? = some e → ∃ e0, es0[i]? = some e0 ∧ e.v = e0.v
theorem Sat.back : ∀ {us0 us1 us2 : List Ent} {es : List Ent}, Sat K Z H es (us2 ++ ts) → (∀ (k : Nat) (e : Ent) i, us0[k]? = some e → e.s = .al i → (∃ t d w, us1[k]? = some w ∧ w.s = .ow t d) → ∃ x, es[i]? = some x ∧ x.v = e.v ∧ (x.s = .un)) →
    (∀ (k k' : Nat) (e e' : Ent) i, us0[k]? = some e → us0[k']? = some e' → e.s = .al i → e'.s = .al i → (∃ t d w, us1[k]? = some w ∧ w.s = .ow t d) → (∃ t d w, us1[k']? = some w ∧ w.s = .ow t d) → k = k') →
    us1.length = us0.length → us2.length = us0.length → (∀ (k : Nat) (e e' : Ent), us0[k]? = some e → us2[k]? = some e' → e'.s = .un ∨ e'.v = e.v) →
    ∃ es', Sat K Z H es' ts ∧ ssOf es' = Mi.back (ssOf us0) (ssOf us1) (ssOf us2) (ssOf es) ∧ vsOf es' = vsOf es ∧ (∀ a ∈ fpsOf (es' ++ ts), a ∈ fpsOf (es ++ (us2 ++ ts)))
  | [], us1, us2, es, s, _, _, l1, l2, _ => by
    obtain rfl : us1 = [] := List.length_eq_zero_iff.mp l1
    obtain rfl : us2 = [] := List.length_eq_zero_iff.mp l2
    exact ⟨es, s, rfl, rfl, fun _ m => m⟩
  | u0 :: us0, [], _, _, _, _, _, l1, _, _ => by cases l1
  | u0 :: us0, _ :: _, [], _, _, _, _, _, l2, _ => by cases l2
  | u0 :: us0, u1 :: us1, u2 :: us2, es, s, hl, hd, l1, l2, hv => by
    have l1' : us1.length = us0.length := by simpa using l1
    have l2' : us2.length = us0.length := by simpa using l2
    have hv' : ∀ (k : Nat) (e e' : Ent), us0[k]? = some e → us2[k]? = some e' → e'.s = .un ∨ e'.v = e.v := fun k e e' h1 h2 => hv (k + 1) e e' (by simpa using h1) (by simpa using h2)
    have hd' : ∀ (k k' : Nat) (e e' : Ent) i, us0[k]? = some e → us0[k']? = some e' → e.s = .al i → e'.s = .al i → (∃ t d w, us1[k]? = some w ∧ w.s = .ow t d) → (∃ t d w, us1[k']? = some w ∧ w.s = .ow t d) → k = k' := fun k k' e e' i h1 h2 h3 h4 h5 h6 => by
      have := hd (k + 1) (k' + 1) e e' i (by simpa using h1) (by simpa using h2) h3 h4 (by simpa using h5) (by simpa using h6)
      omega
    have skip : Mi.back (ssOf (u0 :: us0)) (ssOf (u1 :: us1)) (ssOf (u2 :: us2)) (ssOf es) = Mi.back (ssOf us0) (ssOf us1) (ssOf us2) (ssOf es) → ∃ es', Sat K Z H es' ts ∧ ssOf es' = Mi.back (ssOf (u0 :: us0)) (ssOf (u1 :: us1)) (ssOf (u2 :: us2)) (ssOf es) ∧ vsOf es' = vsOf es ∧ (∀ a ∈ fpsOf (es' ++ ts), a ∈ fpsOf (es ++ (u2 :: us2 ++ ts))) := by
      intro e
      obtain ⟨s', sl⟩ := Sat.dropM (pre := []) s
      obtain ⟨es', g1, g2, g3, g4⟩ := Sat.back (us0 := us0) (us1 := us1) (us2 := us2) (es := es) s' (fun k e i h1 h2 h3 => hl (k + 1) e i (by simpa using h1) h2 (by simpa using h3)) hd' l1' l2' hv'
      exact ⟨es', g1, g2.trans e.symm, g3, fun a m => sl.subset (g4 a m)⟩
    have give : ∀ i t d, u0.s = .al i → u1.s = .ow t d → u2.s ≠ .un → (∀ j, u2.s ≠ .al j) → Mi.back (ssOf (u0 :: us0)) (ssOf (u1 :: us1)) (ssOf (u2 :: us2)) (ssOf es) = Mi.back (ssOf us0) (ssOf us1) (ssOf us2) ((ssOf es).set i u2.s) →
        ∃ es', Sat K Z H es' ts ∧ ssOf es' = Mi.back (ssOf (u0 :: us0)) (ssOf (u1 :: us1)) (ssOf (u2 :: us2)) (ssOf es) ∧ vsOf es' = vsOf es ∧ (∀ a ∈ fpsOf (es' ++ ts), a ∈ fpsOf (es ++ (u2 :: us2 ++ ts))) := by
      intro i t d e0 e1 nu na e
      obtain ⟨x, x1, x2, x3⟩ := hl 0 u0 i rfl e0 ⟨t, d, u1, rfl, e1⟩
      have hv2 : u2.v = x.v := by
        rcases hv 0 u0 u2 rfl rfl with q | q
        · exact absurd q nu
        · exact q.trans x2.symm
      obtain ⟨s', pm⟩ := Sat.back1 (pre := []) s x1 x3 hv2 na
      have hvs := vs_set (es := es) x1 hv2
      obtain ⟨es', g1, g2, g3, g4⟩ := Sat.back (us0 := us0) (us1 := us1) (us2 := us2) (es := es.set i u2) s' (fun k e i' h1 h2 h3 => by
        obtain ⟨y, y1, y2, y3⟩ := hl (k + 1) e i' (by simpa using h1) h2 (by simpa using h3)
        have ne : i ≠ i' := fun z => by
          subst z
          have := hd 0 (k + 1) u0 e i rfl (by simpa using h1) e0 h2 ⟨t, d, u1, rfl, e1⟩ (by simpa using h3)
          omega
        exact ⟨y, by rw [List.getElem?_set_ne ne]; exact y1, y2, y3⟩) hd' l1' l2' hv'
      refine ⟨es', g1, ?_, g3.trans hvs, fun a m => pm.subset (g4 a m)⟩
      rw [g2, e]
      show Mi.back _ _ _ ((es.set i u2).map Ent.s) = _
      rw [List.map_set]
    cases h0 : u0.s with
    | un => exact skip (by show Mi.back (u0.s :: _) (u1.s :: _) (u2.s :: _) _ = _; rw [h0]; rfl)
    | fz d => exact skip (by show Mi.back (u0.s :: _) (u1.s :: _) (u2.s :: _) _ = _; rw [h0]; rfl)
    | ow t d => exact skip (by show Mi.back (u0.s :: _) (u1.s :: _) (u2.s :: _) _ = _; rw [h0]; rfl)
    | al i =>
      cases h1 : u1.s with
      | un => exact skip (by show Mi.back (u0.s :: _) (u1.s :: _) (u2.s :: _) _ = _; rw [h0, h1]; rfl)
      | fz d => exact skip (by show Mi.back (u0.s :: _) (u1.s :: _) (u2.s :: _) _ = _; rw [h0, h1]; rfl)
      | al j => exact skip (by show Mi.back (u0.s :: _) (u1.s :: _) (u2.s :: _) _ = _; rw [h0, h1]; rfl)
      | ow t d =>
        cases h2 : u2.s with
        | un => exact skip (by show Mi.back (u0.s :: _) (u1.s :: _) (u2.s :: _) _ = _; rw [h0, h1, h2]; rfl)
        | al j => exact skip (by show Mi.back (u0.s :: _) (u1.s :: _) (u2.s :: _) _ = _; rw [h0, h1, h2]; rfl)
        | fz d' => exact give i t d h0 h1 (by rw [h2]; intro z; cases z) (by rw [h2]; intro j z; cases z) (by show Mi.back (u0.s :: _) (u1.s :: _) (u2.s :: _) _ = _; rw [h0, h1, h2]; rfl)
        | ow t' d' => exact give i t d h0 h1 (by rw [h2]; intro z; cases z) (by rw [h2]; intro j z; cases z) (by show Mi.back (u0.s :: _) (u1.s :: _) (u2.s :: _) _ = _; rw [h0, h1, h2]; rfl)
theorem lend_un : ∀ {rs ss as s1 : List Sl} {i : Nat}, Mi.lend rs ss = some (as, s1) → ss[i]? = some .un → s1[i]? = some .un
  | [], ss, as, s1, i, h, e => by cases h; exact e
  | .un :: _, _, _, _, _, h, _ => by cases h
  | .fz d :: r, ss, as, s1, i, h, e => by
    obtain ⟨⟨a1, s2⟩, e1, e2⟩ := Option.map_eq_some_iff.mp h
    cases e2; exact lend_un e1 e
  | .ow t d :: r, ss, as, s1, i, h, e => by
    obtain ⟨⟨a1, s2⟩, e1, e2⟩ := Option.map_eq_some_iff.mp h
    cases e2; exact lend_un e1 e
  | .al j :: r, ss, as, s1, i, h, e => by
    unfold Mi.lend at h
    cases q : ss[j]? with
    | none => rw [q] at h; cases h
    | some w =>
      rw [q] at h
      cases w with
      | un => cases h
      | al _ => cases h
      | fz d =>
        obtain ⟨⟨a1, s2⟩, e1, e2⟩ := Option.map_eq_some_iff.mp h
        cases e2; exact lend_un e1 e
      | ow t d =>
        obtain ⟨⟨a1, s2⟩, e1, e2⟩ := Option.map_eq_some_iff.mp h
        cases e2
        refine lend_un e1 ?_
        rw [List.getElem?_set]
        split
        · rename_i z; subst z; rw [if_pos (List.getElem?_eq_some_iff.mp q).1]
        · exact e
theorem lend_lent : ∀ {rs ss as s1 : List Sl}, Mi.lend rs ss = some (as, s1) → (∀ (k i : Nat) t d, rs[k]? = some (.al i) → as[k]? = some (.ow t d) → s1[i]? = some .un ∧ ss[i]? = some (.ow t d)) ∧
    (∀ (k k' i : Nat) t d t' d', rs[k]? = some (.al i) → rs[k']? = some (.al i) → as[k]? = some (.ow t d) → as[k']? = some (.ow t' d') → k = k') ∧ as.length = rs.length
  | [], ss, as, s1, h => by cases h; exact ⟨fun k i t d e => by simp at e, fun k k' i t d t' d' e => by simp at e, rfl⟩
  | .un :: _, _, _, _, h => by cases h
  | .fz d :: r, ss, as, s1, h => by
    obtain ⟨⟨a1, s2⟩, e1, e2⟩ := Option.map_eq_some_iff.mp h
    cases e2
    obtain ⟨h1, h2, h3⟩ := lend_lent e1
    refine ⟨fun k i t d e g => ?_, fun k k' i t d t' d' e e' g g' => ?_, congrArg (· + 1) h3⟩
    · cases k with
      | zero => simp at e
      | succ k => exact h1 k i t d (by simpa using e) (by simpa using g)
    · cases k with
      | zero => simp at e
      | succ k =>
        cases k' with
        | zero => simp at e'
        | succ k' => rw [h2 k k' i t d t' d' (by simpa using e) (by simpa using e') (by simpa using g) (by simpa using g')]
  | .ow t0 d0 :: r, ss, as, s1, h => by
    obtain ⟨⟨a1, s2⟩, e1, e2⟩ := Option.map_eq_some_iff.mp h
    cases e2
    obtain ⟨h1, h2, h3⟩ := lend_lent e1
    refine ⟨fun k i t d e g => ?_, fun k k' i t d t' d' e e' g g' => ?_, congrArg (· + 1) h3⟩
    · cases k with
      | zero => simp at e
      | succ k => exact h1 k i t d (by simpa using e) (by simpa using g)
    · cases k with
      | zero => simp at e
      | succ k =>
        cases k' with
        | zero => simp at e'
        | succ k' => rw [h2 k k' i t d t' d' (by simpa using e) (by simpa using e') (by simpa using g) (by simpa using g')]
  | .al j :: r, ss, as, s1, h => by
    unfold Mi.lend at h
    cases q : ss[j]? with
    | none => rw [q] at h; cases h
    | some w =>
      rw [q] at h
      cases w with
      | un => cases h
      | al _ => cases h
      | fz d =>
        obtain ⟨⟨a1, s2⟩, e1, e2⟩ := Option.map_eq_some_iff.mp h
        cases e2
        obtain ⟨h1, h2, h3⟩ := lend_lent e1
        refine ⟨fun k i t d e g => ?_, fun k k' i t d t' d' e e' g g' => ?_, congrArg (· + 1) h3⟩
        · cases k with
          | zero => simp at g
          | succ k => exact h1 k i t d (by simpa using e) (by simpa using g)
        · cases k with
          | zero => simp at g
          | succ k =>
            cases k' with
            | zero => simp at g'
            | succ k' => rw [h2 k k' i t d t' d' (by simpa using e) (by simpa using e') (by simpa using g) (by simpa using g')]
      | ow t0 d0 =>
        obtain ⟨⟨a1, s2⟩, e1, e2⟩ := Option.map_eq_some_iff.mp h
        cases e2
        obtain ⟨h1, h2, h3⟩ := lend_lent e1
        have un : (ss.set j .un)[j]? = some Sl.un := by rw [List.getElem?_set, if_pos rfl, if_pos (List.getElem?_eq_some_iff.mp q).1]
        have nj : ∀ (k i : Nat) (t : Tg) (d : D), r[k]? = some (Sl.al i) → a1[k]? = some (Sl.ow t d) → i ≠ j := fun k i t d e g z => by
          subst z
          have := (h1 k i t d e g).2
          rw [un] at this; cases this
        refine ⟨fun k i t d e g => ?_, fun k k' i t d t' d' e e' g g' => ?_, congrArg (· + 1) h3⟩
        · cases k with
          | zero =>
            simp at e g
            obtain ⟨rfl, rfl⟩ := g
            subst e
            exact ⟨lend_un e1 un, q⟩
          | succ k =>
            have e' : r[k]? = some (.al i) := by simpa using e
            have g' : a1[k]? = some (.ow t d) := by simpa using g
            obtain ⟨x1, x2⟩ := h1 k i t d e' g'
            rw [List.getElem?_set_ne (Ne.symm (nj k i t d e' g'))] at x2
            exact ⟨x1, x2⟩
        · cases k with
          | zero =>
            cases k' with
            | zero => rfl
            | succ k' =>
              simp at e
              subst e
              exact absurd rfl (nj k' j t' d' (by simpa using e') (by simpa using g'))
          | succ k =>
            cases k' with
            | zero =>
              simp at e'
              subst e'
              exact absurd rfl (nj k j t d (by simpa using e) (by simpa using g))
            | succ k' => rw [h2 k k' i t d t' d' (by simpa using e) (by simpa using e') (by simpa using g) (by simpa using g')]
theorem noAl_of : ∀ {l : List Ent}, noAl (ssOf l) = true → NoAl l
  | [], _ => fun _ m => by cases m
  | e :: r, h => by
    have h' : noAl (e.s :: ssOf r) = true := h
    intro u m j
    rcases List.mem_cons.mp m with q | q
    · subst q
      intro z; rw [z] at h'; cases h'
    · refine noAl_of (l := r) ?_ u q j
      cases hs : e.s <;> rw [hs] at h' <;> first | exact h' | cases h'
theorem EntOk.noAl {e : Ent} (h : EntOk K Z H es e) (n : ∀ j, e.s ≠ .al j) : EntOk K Z H us e := by
  unfold EntOk at h ⊢
  split at h
  · exact h
  · exact h
  · exact h
  · rename_i j hs; exact absurd hs (n j)
theorem Sat.alone (s : Sat K Z H es us) (n : NoAl us) : Sat K Z H [] us := by
  refine ⟨s.sub, ?_, fun a m => s.zf a (fps_app.mpr (.inr (by simpa using m))), fun e m => (s.ok e (List.mem_append_right _ (by simpa using m))).noAl (n e (by simpa using m))⟩
  have := s.nd
  simp only [fpsOf, List.flatMap_append] at this
  simpa using (List.nodup_append.mp this).2.1
/-- the names of the caller stand while the callee works on what was handed over -/
theorem Sat.frame2 {ws : List Ent} (s : Sat K Z H es us) (st : Step Z H (fpsOf us) Z' H' (fpsOf ws)) (hsub : Sub Z' H') (hnd : (fpsOf ws).Nodup) (hzf : ∀ a ∈ fpsOf ws, Z' a = none) (hok : ∀ e ∈ ws, EntOk K Z' H' es e) :
    Sat K Z' H' es ws ∧ Step Z H (fpsOf (es ++ us)) Z' H' (fpsOf (es ++ ws)) := by
  have al : ∀ a ∈ fpsOf es, ∃ o, H a = some o := fun a m => s.alive a (fps_app.mpr (.inl m))
  have nd := s.nd
  simp only [fpsOf, List.flatMap_append, List.nodup_append] at nd
  have nf : ∀ a ∈ fpsOf es, a ∉ fpsOf us := fun a m z => nd.2.2 a m a z rfl
  have n2 : ∀ a ∈ fpsOf es, a ∉ fpsOf ws := fun a m z => by
    rcases st.fps a z with q | q
    · exact nf a m q
    · obtain ⟨o, e⟩ := al a m; rw [e] at q; cases q
  refine ⟨⟨hsub, ?_, fun a m => ?_, fun e m => ?_⟩, ?_⟩
  · simp only [fpsOf, List.flatMap_append, List.nodup_append]
    exact ⟨nd.1, hnd, fun a m b mb z => by subst z; exact n2 a m mb⟩
  · rcases fps_app.mp m with q | q
    · cases e : Z' a with
      | none => rfl
      | some o =>
        rcases st.zn a o e with z | z | z
        · rw [s.zf a (fps_app.mpr (.inl q))] at z; cases z
        · exact (nf a q z).elim
        · obtain ⟨o', e'⟩ := al a q; rw [e'] at z; cases z
    · exact hzf a q
  · rcases List.mem_append.mp m with q | q
    · exact (s.ok e (List.mem_append_left _ q)).frame st.z (fun a ma o e' => st.keep a o e' (nf a (mem_fps.mpr ⟨e, q, ma⟩))) rfl
    · exact hok e q
  · refine ⟨fun a o e n => st.keep a o e fun z => n (fps_app.mpr (.inr z)), fun a m => ?_, st.z, fun a o e => ?_⟩
    · rcases fps_app.mp m with q | q
      · exact .inl (fps_app.mpr (.inl q))
      · exact (st.fps a q).imp (fun z => fps_app.mpr (.inr z)) id
    · exact (st.zn a o e).imp id fun z => z.imp (fun z => fps_app.mpr (.inr z)) id
theorem vs_get {l : List Ent} {vs : List V} (h : vsOf l = vs.map some) {k : Nat} {e : Ent} (g : l[k]? = some e) : ∃ v, e.v = some v := by
  have : (vsOf l)[k]? = some e.v := by rw [List.getElem?_map, g]; rfl
  rw [h, List.getElem?_map] at this
  cases q : vs[k]? with
  | none => rw [q] at this; cases this
  | some v => rw [q] at this; simp at this; exact ⟨v, this.symm⟩
/-- a call: from what is wanted behind it to what the callee promises -/
theorem call_sp {m : Fm} {vs : List V} (s : Sat K Z H es us) (hv : vsOf es = σ) (hu : vsOf us = vs.map some) (k : KQ K E σ Z H (fpsOf (es ++ us)) (kcall m (ssOf us) (ssOf es)) Q) : spM K m vs H Q (E σ) := by
  unfold kcall at k
  cases hl : Mi.lend (ssOf us) (ssOf es) with
  | none => rw [hl] at k; exact k.elim
  | some p =>
    obtain ⟨as, s1⟩ := p
    rw [hl] at k
    dsimp only at k
    obtain ⟨us', es1, g1, g2, g3, g4, g5, g6, g7, g8⟩ := Sat.lend (pre := []) (us := us) s hl
    obtain ⟨l1, l2, l3⟩ := lend_lent hl
    simp only [List.nil_append] at g1 g8
    subst g2 g3
    have ulen : us'.length = us.length := by simpa using l3
    -- what back wants
    have hA : ∀ (k : Nat) (e : Ent) i, us[k]? = some e → e.s = .al i → (∃ t d w, us'[k]? = some w ∧ w.s = .ow t d) → ∃ x, es1[i]? = some x ∧ x.v = e.v ∧ x.s = .un := by
      rintro k e i h1 h2 ⟨t, d, w, h3, h4⟩
      have e1 : (ssOf us)[k]? = some (.al i) := by rw [List.getElem?_map, h1, ← h2]; rfl
      have e2 : (ssOf us')[k]? = some (.ow t d) := by rw [List.getElem?_map, h3, ← h4]; rfl
      obtain ⟨x1, x2⟩ := l1 k i t d e1 e2
      rw [List.getElem?_map] at x1
      cases q : es1[i]? with
      | none => rw [q] at x1; cases x1
      | some x =>
        rw [q] at x1
        refine ⟨x, rfl, ?_, by simpa using x1⟩
        have ok := s.ok e (List.mem_append_right _ (List.mem_of_getElem? h1))
        unfold EntOk at ok
        rw [h2] at ok
        obtain ⟨_, u, y, y1, y2, y3⟩ := ok
        have : (vsOf es1)[i]? = (vsOf es)[i]? := by rw [g5]
        rw [List.getElem?_map, List.getElem?_map, q, y1] at this
        simp only [Option.map_some, Option.some.injEq] at this
        rw [this, y2, y3]
    have hB : ∀ (k k' : Nat) (e e' : Ent) i, us[k]? = some e → us[k']? = some e' → e.s = .al i → e'.s = .al i → (∃ t d w, us'[k]? = some w ∧ w.s = .ow t d) → (∃ t d w, us'[k']? = some w ∧ w.s = .ow t d) → k = k' := by
      rintro k k' e e' i h1 h2 h3 h4 ⟨t, d, w, h5, h6⟩ ⟨t', d', w', h7, h8⟩
      exact l2 k k' i t d t' d' (by rw [List.getElem?_map, h1, ← h3]; rfl) (by rw [List.getElem?_map, h2, ← h4]; rfl) (by rw [List.getElem?_map, h5, ← h6]; rfl) (by rw [List.getElem?_map, h7, ← h8]; rfl)
    have hC : ∀ {ts' : List Ent}, Vok us' ts' → ∀ (k : Nat) (e e' : Ent), us[k]? = some e → ts'[k]? = some e' → e'.s = .un ∨ e'.v = e.v := by
      intro ts' vk k e e' h1 h2
      have hk : k < us'.length := by rw [ulen]; exact (List.getElem?_eq_some_iff.mp h1).1
      have := vk.2 k us'[k] e' (List.getElem?_eq_getElem hk) h2
      refine this.imp id fun q => ?_
      rw [q]
      have e3 : (vsOf us')[k]? = (vsOf us)[k]? := by rw [g4]
      rw [List.getElem?_map, List.getElem?_map, List.getElem?_eq_getElem hk, h1] at e3
      simpa using e3
    have wide : ∀ {Z' H' : Hp} {ws : List Ent}, Step Z H (fpsOf (es1 ++ us')) Z' H' (fpsOf (es1 ++ ws)) → Step Z H (fpsOf (es ++ us)) Z' H' (fpsOf (es1 ++ ws)) := fun st => st.wide fun c m => g8.subset m
    refine ⟨Z, us', g1.alone g6, by rw [g4]; exact hu, ?_⟩
    cases hm : m (ssOf us') with
    | stuck => rw [hm] at k; exact k
    | exc c fs as' =>
      rw [hm] at k
      dsimp only at k
      by_cases hc : noAl as' = true
      · rw [if_pos hc] at k
        intro Z' H' ts' d st s' vk e ed
        subst e
        have na := noAl_of hc
        have nd' : (fpsOf ts').Nodup := by have := s'.nd; simpa using this
        obtain ⟨s2, st2⟩ := g1.frame2 (ws := ts') st s'.sub nd' (fun a m => s'.zf a (by simpa using m)) (fun e m => (s'.ok e (by simpa using m)).noAl (na e m))
        obtain ⟨es', b1, b2, b3, b4⟩ := Sat.back (ts := []) (us0 := us) (us1 := us') (us2 := ts') (by simpa using s2) hA hB ulen (vk.1.trans ulen) (hC vk)
        have := k Z' H' es' d ((wide st2).less fun a m => by have := b4 a (by simpa using m); simpa using this) b1 (by rw [b3, g5]; exact hv) b2 ed
        exact this
      · rw [if_neg hc] at k; exact k.elim
    | ret r as' =>
      rw [hm] at k
      dsimp only at k
      by_cases hc : noAl as' = true
      · rw [if_pos hc] at k
        intro Z' H' ts' v fv st s' vk e
        subst e
        have na := noAl_of hc
        cases hr : resOf (ssOf us) (ssOf ts') r with
        | none => rw [hr] at k; exact k.elim
        | some r' =>
          rw [hr] at k
          dsimp only at k
          -- the result as the caller sees it
          have okR := s'.ok ⟨some v, r, fv⟩ (by simp)
          have okR' : EntOk K Z' H' es1 ⟨some v, r', fv⟩ := by
            cases r with
            | un => cases hr
            | fz d => cases hr; exact okR
            | ow t d => cases hr; exact okR
            | al j =>
              obtain ⟨h0, w, x, w1, w2, w3⟩ := okR
              dsimp only at h0 w3
              subst h0
              cases w3
              unfold resOf at hr
              dsimp only at hr
              have jw : (ssOf ts')[j]? = some w.s := by rw [List.getElem?_map, w1]; rfl
              cases h1 : (ssOf us)[j]? with
              | none => rw [h1] at hr; cases hr
              | some r0 =>
                rw [h1, jw] at hr
                cases r0 with
                | un => cases hr
                | fz d => cases hr
                | ow t d => cases hr
                | al i =>
                  have jl : j < us.length := by
                    have := (List.getElem?_eq_some_iff.mp h1).1
                    simpa using this
                  have hu0 : us[j]? = some us[j] := List.getElem?_eq_getElem jl
                  have hs0 : us[j].s = .al i := by rw [List.getElem?_map, hu0] at h1; simpa using h1
                  have ok0 := s.ok us[j] (List.mem_append_right _ (List.mem_of_getElem? hu0))
                  unfold EntOk at ok0
                  rw [hs0] at ok0
                  obtain ⟨_, u, y, y1, y2, y3⟩ := ok0
                  have hwv : w.s ≠ .un → w.v = us[j].v := fun nz => (hC vk j us[j] w hu0 w1).elim (fun z => absurd z nz) id
                  have fin : w.s ≠ .un → r' = .al i → EntOk K Z' H' es1 ⟨some v, r', []⟩ := by
                    rintro nz rfl
                    have ev := hwv nz
                    rw [w2, y3] at ev
                    cases ev
                    have : (vsOf es1)[i]? = (vsOf es)[i]? := by rw [g5]
                    rw [List.getElem?_map, List.getElem?_map, y1] at this
                    cases q : es1[i]? with
                    | none => rw [q] at this; cases this
                    | some z =>
                      rw [q] at this
                      simp only [Option.map_some, Option.some.injEq] at this
                      exact ⟨rfl, z, v, q, by rw [this]; exact y2, rfl⟩
                  cases hw : w.s with
                  | un => rw [hw] at hr; cases hr
                  | al _ => rw [hw] at hr; cases hr
                  | fz d => rw [hw] at hr; cases hr; exact fin (by rw [hw]; intro z; cases z) rfl
                  | ow t d => rw [hw] at hr; cases hr; exact fin (by rw [hw]; intro z; cases z) rfl
          have efp : fpsOf (ts' ++ [⟨some v, r', fv⟩]) = fpsOf (ts' ++ [⟨some v, r, fv⟩]) := by simp [fpsOf, List.flatMap_append]
          obtain ⟨s2, st2⟩ := g1.frame2 (ws := ts' ++ [⟨some v, r', fv⟩]) (by rw [efp]; exact st) s'.sub (by rw [efp]; exact s'.nd) (fun a m => s'.zf a (by rw [efp] at m; exact m)) (fun e m => by
            rcases List.mem_append.mp m with q | q
            · exact (s'.ok e (List.mem_append_left _ q)).noAl (na e q)
            · obtain rfl := List.mem_singleton.mp q; exact okR')
          obtain ⟨es', b1, b2, b3, b4⟩ := Sat.back (ts := [⟨some v, r', fv⟩]) (us0 := us) (us1 := us') (us2 := ts') s2 hA hB ulen (vk.1.trans ulen) (hC vk)
          exact k Z' H' es' [⟨some v, r', fv⟩] ((wide st2).less b4) b1 (by rw [b3, g5]; exact hv) b2 rfl v rfl
      · rw [if_neg hc] at k; exact k.elim
end
end Mi

/-! M12: the forms of calls: defs, methods, classes. -/
namespace Mi
open PySem PySem.Spec PyProof.Rows L2 Rt
section
variable {K : PySem.W.Frag} {E : EW} {E0 : XK} {kp : List Nat} {σ σ1 : L2.St} {Z H Z' H' Z1 H1 : Hp} {F F1 : List Addr} {es ts us es1 pre : List Ent} {v : V} {Q : VK}
/-- constants behind what is on the way -/
theorem Sat.consts : ∀ {dvs : List V} {dds : List D} {us : List Ent}, Paired (Leaf K) dvs dds → Sat K Z H es us → ∃ ws, Sat K Z H es (us ++ ws) ∧ vsOf ws = dvs.map some ∧ ssOf ws = dds.map .fz ∧ fpsOf (es ++ (us ++ ws)) = fpsOf (es ++ us)
  | _, _, us, .nil, s => ⟨[], by simpa using s, rfl, rfl, by simp⟩
  | _, _, us, .cons (a := v) (b := d) l t, s => by
    obtain ⟨s1, _⟩ := s.new (New.leaf s.sub l)
    obtain ⟨ws, h1, h2, h3, h4⟩ := Sat.consts t s1
    refine ⟨⟨some v, .fz d, []⟩ :: ws, by simpa using h1, by simpa using h2, by simpa using h3, ?_⟩
    have : fpsOf (es ++ (us ++ ⟨some v, .fz d, []⟩ :: ws)) = fpsOf (es ++ (us ++ [⟨some v, .fz d, []⟩] ++ ws)) := by simp
    rw [this, h4]
    simp [fpsOf, List.flatMap_append]
theorem re_callE {m : Fm} {dvs : List V} {dds : List D} {ft : FA} (hd : Paired (Leaf K) dvs dds) (h : RE K E (fCall m dds ft) σ H Q) : RA K E ft σ H fun vs H1 => spM K m (vs ++ dvs) H1 Q (E σ) := by
  obtain ⟨Z, es, s, hv, k⟩ := h
  refine RA.next (ts := []) (n := fun p => kcall m (p.1 ++ dds.map .fz) p.2) s hv (by rw [List.append_nil]; exact k) fun Z1 H1 es1 us vs e1 s1 hv1 k1 => ?_
  rw [List.nil_append] at s1 k1
  obtain ⟨ws, h1, h2, h3, h4⟩ := s1.consts hd
  refine call_sp h1 hv1 (by show (us ++ ws).map Ent.v = _; rw [List.map_append]; show vsOf us ++ vsOf ws = _; rw [e1, h2, List.map_append]) ?_
  rw [h4]
  have : ssOf (us ++ ws) = ssOf us ++ dds.map .fz := by show (us ++ ws).map Ent.s = _; rw [List.map_append]; show ssOf us ++ ssOf ws = _; rw [h3]
  rw [this]
  exact k1
theorem re_call {m : Fm} {dvs : List V} {dds : List D} {ft : FA} (hd : Paired (Leaf K) dvs dds) (h : RE K (fun _ => E0) (fCall m dds ft) σ H Q) : tCall (spM K m) dvs E0 (RA K (fun _ => E0) ft) σ H Q := re_callE hd h
/-! ### methods -/
def kmeth (c name : Str) (r : Sl) (ss : List Sl) : Bool := match r.val ss with
  | some (_, .ins c' fs) => decide (c' = c) && (fs.lookup name).isNone
  | _ => false
def fMeth (c name : Str) (m : Fm) (dds : List D) (fo : FE) (ft : FA) : FE := fun ss => (fo ss).bind fun p => if kmeth c name p.1 p.2 = true then (ft p.2).bind fun q => kcall m (p.1 :: (q.1 ++ dds.map .fz)) q.2 else .stuck
theorem lookup_rel {Z : Hp} {f : Str} : ∀ {gs : List (Str × V)} {fs : List (Str × D)}, gs.map (·.1) = fs.map (·.1) → FReps K Z (gs.map (·.2)) (fs.map (·.2)) →
    (gs.lookup f = none ∧ fs.lookup f = none) ∨ ∃ v d, gs.lookup f = some v ∧ fs.lookup f = some d ∧ FRep K Z v d
  | [], [], _, _ => .inl ⟨rfl, rfl⟩
  | (a, v) :: gs, (b, d) :: fs, e, h => by
    simp only [List.map_cons, List.cons.injEq] at e h
    obtain ⟨rfl, e⟩ := e
    cases h with
    | cons r t =>
      rw [List.lookup_cons, List.lookup_cons]
      cases f == a with
      | true => exact .inr ⟨v, d, rfl, rfl, r⟩
      | false => exact lookup_rel e t
  | [], _ :: _, e, _ => by cases e
  | _ :: _, [], e, _ => by cases e
theorem re_methE {c name : Str} {m : Fm} {dvs : List V} {dds : List D} {fo : FE} {ft : FA} (hd : Paired (Leaf K) dvs dds) (h : RE K E (fMeth c name m dds fo ft) σ H Q) :
    RE K E fo σ H fun x H1 => ∃ a dx fs, x = .ref a ∧ H1 a = some (.ins (He.ga K c) dx fs) ∧ fs.lookup name = none ∧ RA K E ft σ H1 fun vs H2 => spM K m (x :: (vs ++ dvs)) H2 Q (E σ) := by
  obtain ⟨Z, es, s, hv, k⟩ := h
  refine RE.next (ts := []) (n := fun p => if kmeth c name p.1 p.2 = true then (ft p.2).bind fun q => kcall m (p.1 :: (q.1 ++ dds.map .fz)) q.2 else .stuck) s hv (by rw [List.append_nil]; exact k) fun r Z1 H1 es1 x fx s1 hv1 k1 => ?_
  rw [List.nil_append] at s1 k1
  dsimp only at k1
  by_cases hk : kmeth c name r (ssOf es1) = true
  · rw [if_pos hk] at k1
    unfold kmeth at hk
    split at hk
    · rename_i t c' fs e
      rw [Bool.and_eq_true, decide_eq_true_eq] at hk
      obtain ⟨rfl, hno⟩ := hk
      obtain ⟨f, rp, _⟩ := s1.val (e := ⟨some x, r, fx⟩) (by simp) rfl e
      obtain ⟨a, dx, gs, rfl, h1, h2, h3⟩ := rep_insR s1.sub rp
      refine ⟨a, dx, gs, rfl, h1, ?_, ?_⟩
      · rcases lookup_rel (f := name) h2 h3 with ⟨q, _⟩ | ⟨_, d, _, q, _⟩
        · exact q
        · rw [q] at hno; cases hno
      · refine RA.next (n := fun q => kcall m (r :: (q.1 ++ dds.map .fz)) q.2) s1 hv1 k1 fun Z2 H2 es2 us vs e1 s2 hv2 k2 => ?_
        obtain ⟨ws, g1, g2, g3, g4⟩ := s2.consts hd
        refine call_sp (us := ⟨some (.ref a), r, fx⟩ :: (us ++ ws)) (by simpa using g1) hv2 ?_ ?_
        · show some (V.ref a) :: (us ++ ws).map Ent.v = _
          rw [List.map_append]
          show some (V.ref a) :: (vsOf us ++ vsOf ws) = _
          rw [e1, g2, List.map_cons, List.map_append]
        · have e4 : fpsOf (es2 ++ (⟨some (.ref a), r, fx⟩ :: (us ++ ws))) = fpsOf (es2 ++ ([⟨some (.ref a), r, fx⟩] ++ us)) := by
            rw [← g4]; simp
          rw [e4]
          have : ssOf (⟨some (.ref a), r, fx⟩ :: (us ++ ws)) = r :: (ssOf us ++ dds.map .fz) := by
            show r :: (us ++ ws).map Ent.s = _
            rw [List.map_append]; show r :: (ssOf us ++ ssOf ws) = _; rw [g3]
          rw [this]
          exact k2
    · cases hk
  · rw [if_neg hk] at k1
    exact k1.elim
theorem re_meth {c name : Str} {m : Fm} {dvs : List V} {dds : List D} {fo : FE} {ft : FA} (hd : Paired (Leaf K) dvs dds) (h : RE K (fun _ => E0) (fMeth c name m dds fo ft) σ H Q) :
    tMeth (He.ga K c) name (spM K m) dvs E0 (RE K (fun _ => E0) fo) (RA K (fun _ => E0) ft) σ H Q := re_methE hd h
/-! ### classes -/
/-- from __init__ to the class's call -/
def mkM (m : Fm) : Fm := fun as => match m as with
  | .ret (.fz .non) (.ow t d :: as') => .ret (.ow t d) (.un :: as')
  | .exc c fs as' => .exc c fs as'
  | _ => .stuck
theorem spM_mk {m : Fm} {x : Addr} {vs : List V} (h : spM K (mkM m) (.ref x :: vs) H Q E0) : spM K m (.ref x :: vs) H (fun v H2 => v = .non ∧ Q (.ref x) H2) E0 := by
  obtain ⟨Z, ts, s, hv, k⟩ := h
  refine ⟨Z, ts, s, hv, ?_⟩
  unfold mkM at k
  cases hm : m (ssOf ts) with
  | stuck => rw [hm] at k; exact k
  | exc c fs as' => rw [hm] at k; exact k
  | ret r as' =>
    rw [hm] at k
    intro Z' H' ts' v fv st s' vk e
    subst e
    cases r with
    | un => exact k.elim
    | al _ => exact k.elim
    | ow _ _ => exact k.elim
    | fz d =>
      cases d with
      | non =>
        cases ts' with
        | nil => exact k.elim
        | cons e0 rest =>
          have es0 : ssOf (e0 :: rest) = e0.s :: ssOf rest := rfl
          rw [es0] at k
          cases hs : e0.s with
          | un => rw [hs] at k; exact k.elim
          | fz _ => rw [hs] at k; exact k.elim
          | al _ => rw [hs] at k; exact k.elim
          | ow t d =>
            rw [hs] at k
            have okv := s'.ok ⟨some v, .fz .non, fv⟩ (by simp)
            obtain ⟨y, y1, y2, y3⟩ := okv
            cases y1
            cases y2.leaf_of (d := .non) rfl
            refine ⟨rfl, ?_⟩
            dsimp only at y3
            subst y3
            have hv0 : e0.v = some (.ref x) := by
              cases ts with
              | nil => cases hv
              | cons t0 ts =>
                have : t0.v = some (.ref x) := by
                  have hv' : t0.v :: vsOf ts = some (.ref x) :: vs.map some := hv
                  exact (List.cons.inj hv').1
                rcases vk.2 0 t0 e0 rfl rfl with z | z
                · rw [hs] at z; cases z
                · rw [z]; exact this
            have pm : (fpsOf ((⟨e0.v, .un, []⟩ :: rest) ++ [⟨some (.ref x), .ow t d, e0.fp⟩])).Perm (fpsOf ((e0 :: rest) ++ [⟨some .non, .fz .non, []⟩])) := by
              simp only [fpsOf, List.flatMap_append, List.flatMap_cons, List.flatMap_nil]
              rw [List.perm_iff_count]
              intro a
              simp only [List.count_append, List.nil_append, List.append_nil, List.count_nil]
              omega
            refine k Z' H' (⟨e0.v, .un, []⟩ :: rest) (.ref x) e0.fp (st.less fun a m => pm.subset m) ⟨s'.sub, pm.symm.nodup s'.nd, fun a m => s'.zf a (pm.subset m), fun e m => ?_⟩ ⟨vk.1, fun k' e e' h1 h2 => ?_⟩ rfl
            · have hvs : vsOf (⟨e0.v, .un, []⟩ :: rest) = vsOf (e0 :: rest) := rfl
              have go : ∀ e, EntOk K Z' H' (e0 :: rest) e → EntOk K Z' H' (⟨e0.v, .un, []⟩ :: rest) e := fun e ok => ok.frame (Le.refl _) (fun _ _ _ q => q) hvs
              rcases List.mem_append.mp m with q | q
              · rcases List.mem_cons.mp q with q | q
                · subst q; rfl
                · exact go e (s'.ok e (List.mem_append_left _ (List.mem_cons_of_mem _ q)))
              · obtain rfl := List.mem_singleton.mp q
                have ok0 := s'.ok e0 (by simp)
                unfold EntOk at ok0 ⊢
                rw [hs] at ok0
                obtain ⟨z, z1, z2⟩ := ok0
                rw [hv0] at z1; cases z1
                exact ⟨_, rfl, z2⟩
            · cases k' with
              | zero => simp at h2; subst h2; exact .inl rfl
              | succ k' => exact vk.2 (k' + 1) e e' h1 (by simpa using h2)
      | _ => exact k.elim
/-- tg: what of the new instance will be owned -/
def fMake (c : Str) (tg : Tg) (m : Fm) (dds : List D) (ft : FA) : FE := fun ss => (ft ss).bind fun p => kcall (mkM m) (.ow tg (.ins c []) :: (p.1 ++ dds.map .fz)) p.2
theorem rep_new {tg : Tg} {H : Hp} {x dx : Addr} {c : Str} (ht : tg ≠ .fz) (h : H x = some (.ins (He.ga K c) dx [])) : Rep K Z H tg (.ref x) (.ins c []) [x] := by
  cases tg with
  | fz => exact absurd rfl ht
  | o1 => exact .inr ⟨x, _, _, _, _, rfl, h, rfl, rfl, .nil, rfl⟩
  | nd c' => exact .inr ⟨x, _, _, _, _, [], rfl, h, rfl, rfl, rfl, rfl⟩
theorem re_makeE {c : Str} {tg : Tg} {m : Fm} {dvs : List V} {dds : List D} {ft : FA} (ht : tg ≠ .fz) (hd : Paired (Leaf K) dvs dds) (h : RE K E (fMake c tg m dds ft) σ H Q) :
    RA K E ft σ H fun vs H1 => ∀ x dx, H1 x = none → H1 dx = none → dx ≠ x → spM K m (.ref x :: (vs ++ dvs)) (upd (upd H1 dx (.own x)) x (.ins (He.ga K c) dx [])) (fun v H2 => v = .non ∧ Q (.ref x) H2) (E σ) := by
  obtain ⟨Z, es, s, hv, k⟩ := h
  refine RA.next (ts := []) (n := fun p => kcall (mkM m) (.ow tg (.ins c []) :: (p.1 ++ dds.map .fz)) p.2) s hv (by rw [List.append_nil]; exact k) fun Z1 H1 es1 us vs e1 s1 hv1 k1 => ?_
  rw [List.nil_append] at s1 k1
  intro x dx nx ndx ne
  refine spM_mk ?_
  obtain ⟨ws, h1, h2, h3, h4⟩ := s1.consts hd
  have n1 : upd H1 dx (.own x) x = none := by rw [upd_ne (Ne.symm ne)]; exact nx
  have nw : New K Z1 H1 Z1 (upd (upd H1 dx (.own x)) x (.ins (He.ga K c) dx [])) (.ref x) (.ow tg (.ins c [])) [x] := by
    refine ⟨⟨fun a u e _ => ?_, fun a m => .inr (by simp at m; subst m; exact nx), Le.refl _, fun _ _ e => .inl e⟩, (s1.sub.upd ndx).upd n1, ⟨.ref x, rfl, rep_new ht upd_same⟩, by simp, fun a m => ?_⟩
    · rw [upd_ne (ne_of_none e nx), upd_ne (ne_of_none e ndx)]; exact e
    · simp at m; subst m; exact s1.sub.zn nx
  obtain ⟨s2, st2⟩ := h1.new nw
  -- the new one goes first
  have pm : (fpsOf (es1 ++ (⟨some (.ref x), .ow tg (.ins c []), [x]⟩ :: (us ++ ws)))).Perm (fpsOf (es1 ++ (us ++ ws ++ [⟨some (.ref x), .ow tg (.ins c []), [x]⟩]))) := by
    simp only [fpsOf, List.flatMap_append, List.flatMap_cons, List.flatMap_nil]
    rw [List.perm_iff_count]
    intro a
    simp only [List.count_append, List.append_nil]
    omega
  have s3 : Sat K Z1 (upd (upd H1 dx (.own x)) x (.ins (He.ga K c) dx [])) es1 (⟨some (.ref x), .ow tg (.ins c []), [x]⟩ :: (us ++ ws)) := by
    refine ⟨s2.sub, pm.symm.nodup s2.nd, fun a m => s2.zf a (pm.subset m), fun e m => s2.ok e ?_⟩
    rcases List.mem_append.mp m with q | q
    · exact List.mem_append_left _ q
    · rcases List.mem_cons.mp q with q | q
      · subst q; simp
      · exact List.mem_append_right _ (List.mem_append_left _ q)
  refine call_sp s3 hv1 ?_ ?_
  · show some (V.ref x) :: (us ++ ws).map Ent.v = _
    rw [List.map_append]
    show some (V.ref x) :: (vsOf us ++ vsOf ws) = _
    rw [e1, h2, List.map_cons, List.map_append]
  · have : ssOf (⟨some (.ref x), .ow tg (.ins c []), [x]⟩ :: (us ++ ws)) = .ow tg (.ins c []) :: (ssOf us ++ dds.map .fz) := by
      show Sl.ow tg (.ins c []) :: (us ++ ws).map Ent.s = _
      rw [List.map_append]; show _ :: (ssOf us ++ ssOf ws) = _; rw [h3]
    rw [this]
    refine Kon.from (st2.less fun a m => pm.subset m) ?_
    rw [h4]
    exact k1
theorem re_make {c : Str} {tg : Tg} {m : Fm} {dvs : List V} {dds : List D} {ft : FA} (ht : tg ≠ .fz) (hd : Paired (Leaf K) dvs dds) (h : RE K (fun _ => E0) (fMake c tg m dds ft) σ H Q) :
    tMake (He.ga K c) (spM K m) dvs E0 (RA K (fun _ => E0) ft) σ H Q := re_makeE ht hd h
/-- keywords: gV puts what is handed in to the parameters' places -/
def fCallK (m : Fm) (n k : Nat) (gV : List Sl → List Sl → List Sl) (ft fk : FA) : FE := fun ss => (ft ss).bind fun p => (fk p.2).bind fun q => if p.1.length = n ∧ q.1.length = k then kcall m (gV p.1 q.1) q.2 else .stuck
end
end Mi

/-! M13: further operations; walks; comprehensions; stores. -/
namespace Mi
open PySem PySem.Spec PyProof.Rows L2 Rt
section
variable {K : PySem.W.Frag} {E : EW} {E0 : XK} {kp : List Nat} {σ σ1 : L2.St} {Z H Z' H' Z1 H1 : Hp} {F F1 : List Addr} {es ts us es1 pre : List Ent} {v : V} {Q : VK}
def opNeg (_ : Tg) : D → Option Sl
  | .int a => some (.fz (.int (-a)))
  | _ => none
theorem op_neg_ok : Op1 K rNegI opNeg := by
  intro Z H t d v fp res Q s h e k
  unfold opNeg at e
  split at e
  · cases e
    rw [rep_int s h]
    exact ⟨_, rfl, nl s k (.int _)⟩
  · cases e
theorem re_un {r : V → Hp → VK → Prop} {op : Tg → D → Option Sl} {fa : FE} (h : Op1 K r op) (q : RE K E (f1 op fa) σ H Q) : tUn r (RE K E fa) σ H Q := ref1 h q
theorem re_op {r : R2} {op : Tg → D → Tg → D → Option Sl} {fa fb : FE} (h : Op2 K r op) (q : RE K E (f2 op fa fb) σ H Q) : tOp r (RE K E fa) (RE K E fb) σ H Q := ref2 h q
theorem re_cb {r : List V → Hp → VK → Prop} {op : List (Tg × D) → Option Sl} {ft : FA} (h : OpN K r op) (q : RE K E (fN op ft) σ H Q) : tCB r (RA K E ft) σ H Q := refN h q
/-- not x, by truth -/
def opNot (_ : Tg) (d : D) : Option Sl := (truD d).map fun b => .fz (.bl (!b))
theorem re_notT {fa : FE} (q : RE K E (f1 opNot fa) σ H Q) : tNotT K (RE K E fa) σ H Q := by
  refine ref1 (r := fun x H1 Q => ∃ k, TruV K x H1 k ∧ Q (.bl (!k)) H1) ?_ q
  intro Z H t d v fp res Q s h e k
  obtain ⟨b, e1, rfl⟩ := Option.map_eq_some_iff.mp e
  exact ⟨b, tru_of s h e1, nl s k (.bl _)⟩
def opAbs : List (Tg × D) → Option Sl
  | [(_, .int a)] => some (.fz (.int (a.natAbs : Nat)))
  | _ => none
theorem op_abs_ok : OpN K rAbsV opAbs := by
  intro Z H vs xs res Q s hs h k
  unfold opAbs at h
  split at h
  · rename_i t a
    cases h
    cases hs with
    | cons h1 hs =>
      cases hs
      obtain ⟨f, h1⟩ := h1
      rw [rep_int s h1]
      refine ⟨a, rfl, ?_⟩
      have e : (if a < 0 then -a else a) = ((a.natAbs : Nat) : Int) := by split <;> omega
      rw [e]
      exact nl s k (.int _)
  · cases h
def opLen : List (Tg × D) → Option Sl
  | [(_, .lst xs)] => some (.fz (.int (xs.length : Nat)))
  | [(_, .tup xs)] => some (.fz (.int (xs.length : Nat)))
  | [(_, .scr xs)] => some (.fz (.int (xs.length : Nat)))
  | [(_, .str x)] => if x.length ≤ sizeLine then some (.fz (.int (x.length : Nat))) else none
  | _ => none
theorem op_len_ok : OpN K (rLenU K) opLen := by
  intro Z H vs xs res Q s hs h k
  unfold opLen at h
  split at h
  · cases h
    cases hs with
    | cons h1 hs =>
      cases hs
      obtain ⟨f, h1⟩ := h1
      obtain ⟨a, vs, rfl, q, fr⟩ := rep_lstR s h1
      exact .inl ⟨a, vs, rfl, .inl (.of q), by rw [fr.len]; exact nl s k (.int _)⟩
  · cases h
    cases hs with
    | cons h1 hs =>
      cases hs
      obtain ⟨f, h1⟩ := h1
      obtain ⟨a, vs, rfl, q, fr⟩ := rep_tupR s h1
      exact .inl ⟨a, vs, rfl, .inr q, by rw [fr.len]; exact nl s k (.int _)⟩
  · cases h
    cases hs with
    | cons h1 hs =>
      cases hs
      obtain ⟨f, h1⟩ := h1
      obtain ⟨a, rfl, q⟩ := rep_scr s h1
      exact .inl ⟨a, _, rfl, .inl q, by rw [List.length_map]; exact nl s k (.int _)⟩
  · split at h
    · rename_i hl
      cases h
      cases hs with
      | cons h1 hs =>
        cases hs
        obtain ⟨f, h1⟩ := h1
        rw [rep_str s h1]
        exact .inr ⟨_, rfl, hl, nl s k (.int _)⟩
    · cases h
  · cases h
def opList : List (Tg × D) → Option Sl
  | [(t, .lst xs)] => if t.flat = true then some (.ow .o1 (.lst xs)) else none
  | [(t, .tup xs)] => if t.flat = true then some (.ow .o1 (.lst xs)) else none
  | _ => none
theorem op_list_ok : OpN K (rListOf K) opList := by
  intro Z H vs xs res Q s hs h k
  unfold opList at h
  split at h
  · split at h
    · rename_i hf
      cases h
      cases hs with
      | cons h1 hs =>
        cases hs
        obtain ⟨f, h1⟩ := h1
        obtain ⟨a, vs, rfl, q, fr⟩ := rep_lst hf s h1
        exact ⟨a, vs, rfl, .inl (.of q), fun l nl => k _ _ _ _ (New.o1 s nl rfl rfl fr)⟩
    · cases h
  · split at h
    · rename_i hf
      cases h
      cases hs with
      | cons h1 hs =>
        cases hs
        obtain ⟨f, h1⟩ := h1
        obtain ⟨a, vs, rfl, q, fr⟩ := rep_tup hf s h1
        exact ⟨a, vs, rfl, .inr q, fun l nl => k _ _ _ _ (New.o1 s nl rfl rfl fr)⟩
    · cases h
  · cases h
def opTupOf : List (Tg × D) → Option Sl
  | [(t, .lst xs)] => if t.flat = true then some (.fz (.tup xs)) else none
  | [(.fz, .tup xs)] => some (.fz (.tup xs))
  | _ => none
theorem op_tupof_ok : OpN K (rTupOf K) opTupOf := by
  intro Z H vs xs res Q s hs h k
  unfold opTupOf at h
  split at h
  · split at h
    · rename_i hf
      cases h
      cases hs with
      | cons h1 hs =>
        cases hs
        obtain ⟨f, h1⟩ := h1
        obtain ⟨a, vs, rfl, q, fr⟩ := rep_lst hf s h1
        exact ⟨a, vs, rfl, .inl ⟨.of q, fun l nl => k _ _ _ _ (New.fzo s nl rfl rfl fr)⟩⟩
    · cases h
  · cases h
    cases hs with
    | cons h1 hs =>
      cases hs
      obtain ⟨f, h1⟩ := h1
      obtain ⟨a, vs, rfl, q, fr⟩ := rep_tup (t := .fz) rfl s h1
      exact ⟨a, vs, rfl, .inr ⟨q, k _ _ _ _ (New.fz s h1.1)⟩⟩
  · cases h
/-! ### slices -/
abbrev FO := List Sl → Ro (Option Int × List Sl)
def RO (K : PySem.W.Frag) (E : EW) (f : FO) : L2.St → Hp → (Option Int → Hp → Prop) → Prop := fun σ H Q => ∃ Z es, Sat K Z H es [] ∧ vsOf es = σ ∧ Kon K E σ Z H (fpsOf es) (f (ssOf es)) (fun _ => []) fun b _ H' _ _ => Q b H'
def fNoPart : FO := fun ss => .ok (none, ss)
def kpart (r : Sl) (ss : List Sl) : Ro (Option Int × List Sl) := match r.val ss with
  | some (_, .int i) => .ok (some i, ss)
  | _ => .stuck
def fPart (fa : FE) : FO := fun ss => (fa ss).bind fun p => kpart p.1 p.2
theorem ro_no {R : Option Int → Hp → Prop} (h : RO K E fNoPart σ H R) : tNoPart σ H R := by
  obtain ⟨Z, es, s, hv, k⟩ := h
  exact k Z H es [] (Step.refl fun a m => by simpa using m) s hv rfl rfl
theorem ro_part {fa : FE} {R : Option Int → Hp → Prop} (h : RO K E (fPart fa) σ H R) : tPart (RE K E fa) σ H R := by
  obtain ⟨Z, es, s, hv, k⟩ := h
  refine RE.next (ts := []) (n := fun p => kpart p.1 p.2) s hv (by rw [List.append_nil]; exact k) fun r Z1 H1 es1 v fp s1 hv1 k1 => ?_
  dsimp only at k1
  unfold kpart at k1
  split at k1
  · rename_i t i e
    obtain ⟨f, rp, _⟩ := s1.val (e := ⟨some v, r, fp⟩) (by simp) rfl e
    refine ⟨i, rep_int s1.sub rp, ?_⟩
    exact k1 Z1 H1 es1 [] (Step.refl fun a m => by rw [List.append_nil] at m; exact fps_app.mpr (.inl m)) s1.bare hv1 rfl rfl
  · exact k1.elim
theorem RO.next {β : Type} {f : FO} {n : Option Int × List Sl → Ro (β × List Sl)} {rs : β → List Sl} {P : β → Hp → Hp → List Ent → List Ent → Prop} {R : Option Int → Hp → Prop} (s : Sat K Z1 H1 es1 ts) (hv : vsOf es1 = σ) (k : Kon K E σ Z1 H1 (fpsOf (es1 ++ ts)) ((f (ssOf es1)).bind n) rs P)
    (h : ∀ b Z2 H2 es2, Sat K Z2 H2 es2 ts → vsOf es2 = σ → Kon K E σ Z2 H2 (fpsOf (es2 ++ ts)) (n (b, ssOf es2)) rs P → R b H2) : RO K E f σ H1 R := by
  refine ⟨Z1, es1, s.bare, hv, kon_next s hv k fun a Z2 H2 es2 us e1 s2 e2 k2 => ?_⟩
  obtain rfl : us = [] := by simpa using e1
  rw [List.append_nil] at s2 k2
  exact h a Z2 H2 es2 s2 e2 k2
def cutD (xs : List α) (lo hi : Option Int) : List α := (xs.drop (HT.sIx xs.length 0 lo)).take (HT.sIx xs.length xs.length hi - HT.sIx xs.length 0 lo)
theorem cutD_fr {vs : List V} {ds : List D} (h : FReps K Z vs ds) (lo hi : Option Int) : FReps K Z (cutV vs lo hi) (cutD ds lo hi) := by
  unfold cutV cutD
  rw [h.len]
  exact (h.drop _).take _
def opSl (t : Tg) (d : D) (lo hi : Option Int) : Option Sl := match d with
  | .lst xs => if t.flat = true then some (.ow .o1 (.lst (cutD xs lo hi))) else none
  | .scr xs => some (.ow .o1 (.lst ((cutD xs lo hi).map .int)))
  | .str z => if z.length ≤ sizeLine then some (.fz (.str (cutS z lo hi))) else none
  | .tup xs => if t.flat = true ∧ ¬ (HT.sIx xs.length 0 lo = 0 ∧ HT.sIx xs.length xs.length hi = xs.length) then some (.fz (.tup (cutD xs lo hi))) else none
  | _ => none
def rSlW (K : PySem.W.Frag) : V → Option Int → Option Int → Hp → VK → Prop := fun x lo hi H Q => rSlU K x lo hi H Q ∨ rSlS x lo hi H Q
theorem sl_W {X : Cx} : SlR X (rSlW X.K) := sl_U.or sl_str
theorem FReps.ofInts : ∀ xs : List Int, FReps K Z (xs.map V.int) (xs.map D.int)
  | [] => .nil
  | x :: r => .cons (.leaf (.int x)) (FReps.ofInts r)
theorem op_sl_ok {Z H : Hp} {t : Tg} {d : D} {v : V} {fp : List Addr} {lo hi : Option Int} {res : Sl} {Q : VK} (s : Sub Z H) (h : Rep K Z H t v d fp) (e : opSl t d lo hi = some res) (k : ∀ Z' H' u fu, New K Z H Z' H' u res fu → Q u H') : rSlW K v lo hi H Q := by
  unfold opSl at e
  split at e
  · split at e
    · rename_i hf
      cases e
      obtain ⟨a, vs, rfl, q, fr⟩ := rep_lst hf s h
      exact .inl (.inl ⟨a, vs, rfl, .of q, fun p np => k _ _ _ _ (New.o1 s np rfl rfl (cutD_fr fr lo hi))⟩)
    · cases e
  · cases e
    rename_i xs
    obtain ⟨a, rfl, q⟩ := rep_scr s h
    refine .inl (.inl ⟨a, _, rfl, q, fun p np => k _ _ _ _ (New.o1 (vs := cutV (xs.map V.int) lo hi) s np rfl rfl ?_)⟩)
    have : (cutD xs lo hi).map D.int = cutD (xs.map D.int) lo hi := by
      unfold cutD
      rw [List.map_take, List.map_drop, List.length_map]
    rw [this]
    exact cutD_fr (FReps.ofInts xs) lo hi
  · split at e
    · rename_i hl
      cases e
      rw [rep_str s h]
      exact .inr ⟨_, rfl, hl, nl s k (.str _)⟩
    · cases e
  · split at e
    · rename_i hf
      cases e
      obtain ⟨a, vs, rfl, q, fr⟩ := rep_tup hf.1 s h
      refine .inl (.inr ⟨a, vs, rfl, q, by rw [fr.len]; exact hf.2, fun p np => k _ _ _ _ (New.fzo s np rfl rfl (cutD_fr fr lo hi))⟩)
    · cases e
  · cases e
def ksl (a : Sl) (lo hi : Option Int) (ss : List Sl) : Ro (Sl × List Sl) := orS ((a.val ss).bind fun x => opSl x.1 x.2 lo hi) ss
def fSl (fa : FE) (fl fh : FO) : FE := fun ss => (fa ss).bind fun p => (fl p.2).bind fun l => (fh l.2).bind fun u => ksl p.1 l.1 u.1 u.2
theorem re_sl {fa : FE} {fl fh : FO} (h : RE K E (fSl fa fl fh) σ H Q) : L2.tSl (rSlW K) (RE K E fa) (RO K E fl) (RO K E fh) σ H Q := by
  obtain ⟨Z, es, s, hv, k⟩ := h
  refine RE.next (ts := []) (n := fun p => (fl p.2).bind fun l => (fh l.2).bind fun u => ksl p.1 l.1 u.1 u.2) s hv (by rw [List.append_nil]; exact k) fun a Z1 H1 es1 v fp s1 hv1 k1 => ?_
  refine RO.next (n := fun l => (fh l.2).bind fun u => ksl a l.1 u.1 u.2) s1 hv1 k1 fun l Z2 H2 es2 s2 hv2 k2 => ?_
  refine RO.next (n := fun u => ksl a l u.1 u.2) s2 hv2 k2 fun u Z3 H3 es3 s3 hv3 k3 => ?_
  obtain ⟨r, hr, k4⟩ := Kon.some k3
  obtain ⟨⟨t, d⟩, h1, h2⟩ := Option.bind_eq_some_iff.mp hr
  obtain ⟨f, rp, _⟩ := s3.val (e := ⟨some v, a, fp⟩) (by simp) rfl h1
  exact op_sl_ok s3.sub rp h2 fun Z' H' u fu n => fin_new s3 hv3 k4 n
/-! ### fields -/
/-- the classes cs have a field f -/
def opFld (cs : List Str) (f : Str) (t : Tg) (d : D) : Option Sl := match d with
  | .ins c fs => if c ∈ cs then (fs.lookup f).bind (partSl t) else none
  | _ => none
def FldOk (K : PySem.W.Frag) (cs : List Str) (f : Str) : Prop := ∀ c ∈ cs, Cls K (He.ga K c) ∧ NoAttr K (He.ga K c) f
theorem re_fld {cs : List Str} {f : Str} {fa : FE} (C : FldOk K cs f) (h : RE K E (f1 (opFld cs f) fa) σ H Q) : tFld K (RE K E fa) f σ H Q := by
  refine ref1 (r := fun x H1 Q => ∃ a C dx fs v, x = .ref a ∧ H1 a = some (.ins C dx fs) ∧ Cls K C ∧ NoAttr K C f ∧ fs.lookup f = some v ∧ Q v H1) ?_ h
  intro Z H t d v fp res Q s hr e k
  unfold opFld at e
  split at e
  · rename_i c fs
    split at e
    · rename_i hc
      obtain ⟨x, e1, e2⟩ := Option.bind_eq_some_iff.mp e
      obtain ⟨a, dx, gs, rfl, q1, q2, q3⟩ := rep_insR s hr
      rcases lookup_rel (f := f) q2 q3 with ⟨_, z⟩ | ⟨y, d', z1, z2, z3⟩
      · rw [z] at e1; cases e1
      · rw [e1] at z2; cases z2
        refine ⟨a, _, dx, gs, y, rfl, q1, (C c hc).1, (C c hc).2, z1, part_of s e2 (fun hf => ?_) z3 k⟩
        obtain ⟨b, dx', gs', e5, p1, p2, p3⟩ := rep_ins hf s hr
        cases e5; rw [q1] at p1; cases p1
        rcases lookup_rel (f := f) p2 p3 with ⟨_, z⟩ | ⟨y', d', w1, w2, w3⟩
        · rw [z] at e1; cases e1
        · rw [e1] at w2; cases w2; rw [z1] at w1; cases w1; exact w3
    · cases e
  · cases e
/-! ### walks over lists, tuples, ranges -/
def kseq (r : Sl) (ss : List Sl) : Ro (List D × List Sl) := match kfrz r ss with
  | .ok (.fz (.lst xs), s) => .ok (xs, s)
  | .ok (.fz (.tup xs), s) => .ok (xs, s)
  | _ => .stuck
def iSeqF (fa : FE) : FI := fun ss => (ffrz fa ss).bind fun p => match p.1 with
  | .fz (.lst xs) => .ok (xs, p.2)
  | .fz (.tup xs) => .ok (xs, p.2)
  | _ => .stuck
theorem walk_list {a : Addr} {vs : List V} {ds : List D} (h : ∀ Z' H', Le Z Z' → Sub Z' H' → SqL K H' a vs) (hs : FReps K Z vs ds) : Walk K Z (Itl K a) ds := by
  refine ⟨fun i Z' H' le su hi => ?_, fun Z' H' le su => ?_, fun i Z' H' x H'' d le su hd y => ?_⟩
  · have hi' : i < vs.length := by rw [hs.len]; exact hi
    exact ⟨vs, vs[i], h Z' H' le su, List.getElem?_eq_getElem hi'⟩
  · exact ⟨vs, h Z' H' le su, by rw [hs.len]; exact Nat.le_refl _⟩
  · obtain ⟨e, y⟩ := y
    subst e
    obtain ⟨w, h1, h2⟩ := hs.get hd
    have := y vs (h Z' _ le su)
    rw [h1] at this; cases this
    exact ⟨Z', New.fz su (h2.mono le)⟩
theorem walk_tup {a : Addr} {vs : List V} {ds : List D} (h : ∀ Z' H', Le Z Z' → Sub Z' H' → SqT K H' a vs) (hs : FReps K Z vs ds) : Walk K Z (Itt K a) ds := by
  refine ⟨fun i Z' H' le su hi => ?_, fun Z' H' le su => ?_, fun i Z' H' x H'' d le su hd y => ?_⟩
  · have hi' : i < vs.length := by rw [hs.len]; exact hi
    exact ⟨vs, vs[i], h Z' H' le su, List.getElem?_eq_getElem hi'⟩
  · exact ⟨vs, h Z' H' le su, by rw [hs.len]; exact Nat.le_refl _⟩
  · obtain ⟨e, y⟩ := y
    subst e
    obtain ⟨w, h1, h2⟩ := hs.get hd
    have := y vs (h Z' _ le su)
    rw [h1] at this; cases this
    exact ⟨Z', New.fz su (h2.mono le)⟩
theorem fin_i {R : It → Hp → Prop} {ds : List D} {J : It} (s : Sat K Z H es ts) (hv : vsOf es = σ) (w : Walk K Z J ds) (k : Kon K E σ Z H (fpsOf (es ++ ts)) (.ok (ds, ssOf es)) (fun _ => []) fun ds Z' H' _ _ => ∀ J, Walk K Z' J ds → R J H') : R J H :=
  k Z H es [] (Step.refl fun a m => by rw [List.append_nil] at m; exact fps_app.mpr (.inl m)) s.bare hv rfl rfl J w
theorem FRep.lst_at {v : V} {ds : List D} (h : FRep K Z v (.lst ds)) : ∃ a vs, v = .ref a ∧ (∀ Z' H', Le Z Z' → Sub Z' H' → SqL K H' a vs) ∧ FReps K Z vs ds := by
  obtain ⟨a, vs, h1, h2, h3⟩ := h.node_of (k := .lst) (ds := ds) rfl
  refine ⟨a, vs, h1, fun Z' H' le su => ?_, h2⟩
  rcases h3 with ⟨o, h3, h4⟩ | q
  · rw [oview_lst h4] at h3
    exact .inl (su.rd (le _ _ h3))
  · exact q.elim
theorem FRep.tup_at {v : V} {ds : List D} (h : FRep K Z v (.tup ds)) : ∃ a vs, v = .ref a ∧ (∀ Z' H', Le Z Z' → Sub Z' H' → SqT K H' a vs) ∧ FReps K Z vs ds := by
  obtain ⟨a, vs, h1, h2, h3⟩ := h.node_of (k := .tup) (ds := ds) rfl
  refine ⟨a, vs, h1, fun Z' H' le su => ?_, h2⟩
  rcases h3 with ⟨o, h3, h4⟩ | q
  · rw [oview_tup h4] at h3
    exact .inl (su.rd (le _ _ h3))
  · exact sqT_wr q
theorem ri_seq {fa : FE} {R : It → Hp → Prop} (h : RI K E (iSeqF fa) σ H R) : iSeq K (RE K E fa) σ H R := by
  obtain ⟨Z, es, s, hv, k⟩ := h
  let nL : Sl × List Sl → Ro (List D × List Sl) := fun p => match p.1 with
    | .fz (.lst xs) => .ok (xs, p.2)
    | _ => .stuck
  let nT : Sl × List Sl → Ro (List D × List Sl) := fun p => match p.1 with
    | .fz (.tup xs) => .ok (xs, p.2)
    | _ => .stuck
  have goL : Kon K E σ Z H (fpsOf es) ((ffrz fa (ssOf es)).bind nL) (fun _ => []) (fun ds Z' H' _ _ => ∀ J, Walk K Z' J ds → R J H') → iSeq K (RE K E fa) σ H R := fun k => by
    refine .inl (re_frz (RE.next (ts := []) (n := nL) s hv (by rw [List.append_nil]; exact k) fun r Z1 H1 es1 v fp s1 hv1 k1 => ?_))
    change Kon K E σ Z1 H1 _ (match r with | .fz (.lst xs) => .ok (xs, ssOf es1) | _ => .stuck) _ _ at k1
    split at k1
    · rename_i xs
      obtain ⟨y, y1, y2, y3⟩ := s1.ok ⟨some v, .fz (.lst xs), fp⟩ (by simp)
      cases y1
      obtain ⟨a, vs, rfl, q, fr⟩ := y2.lst_at
      exact ⟨a, rfl, ⟨vs, q _ _ (Le.refl _) s1.sub⟩, fin_i s1 hv1 (walk_list q fr) k1⟩
    · exact k1.elim
  have goT : Kon K E σ Z H (fpsOf es) ((ffrz fa (ssOf es)).bind nT) (fun _ => []) (fun ds Z' H' _ _ => ∀ J, Walk K Z' J ds → R J H') → iSeq K (RE K E fa) σ H R := fun k => by
    refine .inr (re_frz (RE.next (ts := []) (n := nT) s hv (by rw [List.append_nil]; exact k) fun r Z1 H1 es1 v fp s1 hv1 k1 => ?_))
    change Kon K E σ Z1 H1 _ (match r with | .fz (.tup xs) => .ok (xs, ssOf es1) | _ => .stuck) _ _ at k1
    split at k1
    · rename_i xs
      obtain ⟨y, y1, y2, y3⟩ := s1.ok ⟨some v, .fz (.tup xs), fp⟩ (by simp)
      cases y1
      obtain ⟨a, vs, rfl, q, fr⟩ := y2.tup_at
      exact ⟨a, rfl, ⟨vs, q _ _ (Le.refl _) s1.sub⟩, fin_i s1 hv1 (walk_tup q fr) k1⟩
    · exact k1.elim
  unfold iSeqF at k
  cases hf : ffrz fa (ssOf es) with
  | stuck => rw [hf] at k; exact k.elim
  | exc c fs ss => rw [hf] at k goL; exact goL k
  | ok p =>
    obtain ⟨r, s1⟩ := p
    rw [hf] at k goL goT
    cases r with
    | fz d =>
      cases d with
      | lst xs => exact goL k
      | tup xs => exact goT k
      | _ => exact k.elim
    | _ => exact k.elim
/-! range -/
def rangeD (lo : Int) (n : Nat) : List D := (List.range n).map fun i => .int (lo + (i : Nat))
theorem rangeD_len (lo : Int) (n : Nat) : (rangeD lo n).length = n := by simp [rangeD]
theorem rangeD_get {lo : Int} {n i : Nat} {d : D} (h : (rangeD lo n)[i]? = some d) : d = .int (lo + (i : Nat)) := by
  unfold rangeD at h
  rw [List.getElem?_map] at h
  cases q : (List.range n)[i]? with
  | none => rw [q] at h; cases h
  | some j =>
    rw [q] at h
    have hj : j = i := by
      have := List.getElem?_eq_some_iff.mp q
      obtain ⟨h1, h2⟩ := this
      rw [List.getElem_range] at h2; exact h2.symm
    subst hj
    simpa using h.symm
theorem walk_range (lo : Int) (n : Nat) : Walk K Z (Itr lo n) (rangeD lo n) := by
  refine ⟨fun i Z' H' le su hi => by rw [rangeD_len] at hi; exact hi, fun Z' H' le su => by rw [rangeD_len]; exact Nat.le_refl _, fun i Z' H' x H'' d le su hd y => ?_⟩
  obtain ⟨e, e2⟩ := y
  subst e e2
  rw [rangeD_get hd]
  exact ⟨Z', New.leaf su (.int _)⟩
def inRg (i : Int) : Prop := -(2 ^ 62) ≤ i ∧ i < 2 ^ 62
instance {i : Int} : Decidable (inRg i) := inferInstanceAs (Decidable (_ ∧ _))
def krng (rs : List Sl) (ss : List Sl) : Ro (List D × List Sl) := match valL ss rs with
  | some [(_, .int j)] => if inRg j then .ok (rangeD 0 j.toNat, ss) else .stuck
  | some [(_, .int i), (_, .int j)] => if inRg i ∧ inRg j then .ok (rangeD i (j - i).toNat, ss) else .stuck
  | _ => .stuck
def iRngF (ft : FA) : FI := fun ss => (ft ss).bind fun p => krng p.1 p.2
theorem valL_len {ss : List Sl} : ∀ {rs : List Sl} {xs : List (Tg × D)}, valL ss rs = some xs → xs.length = rs.length
  | [], _, h => by cases h; rfl
  | r :: rs, _, h => by
    obtain ⟨x, h1, h2⟩ := Option.bind_eq_some_iff.mp h
    obtain ⟨ys, h3, h4⟩ := Option.bind_eq_some_iff.mp h2
    cases h4
    rw [List.length_cons, List.length_cons, valL_len h3]
theorem ri_rng1 {fa : FE} {R : It → Hp → Prop} (h : RI K E (iRngF (fcons fa fnil)) σ H R) : iRng1 (RA K E (fcons fa fnil)) σ H R := by
  obtain ⟨Z, es, s, hv, k⟩ := h
  unfold iRngF at k
  have e0 : (fcons fa fnil (ssOf es)).bind (fun p => krng p.1 p.2) = (fcons fa fnil (ssOf es)).bind (fun p => if p.1.length = 1 then krng p.1 p.2 else .stuck) := by
    unfold fcons fnil
    cases fa (ssOf es) <;> rfl
  rw [e0, ← List.append_nil es] at k
  refine RA.next (ts := []) (n := fun p => if p.1.length = 1 then krng p.1 p.2 else .stuck) s hv (by simpa only [List.append_nil] using k) fun Z1 H1 es1 us vs e1 s1 hv1 k1 => ?_
  · rw [List.nil_append] at s1 k1
    dsimp only at k1
    split at k1
    · rename_i hl
      unfold krng at k1
      split at k1
      · rename_i t j e
        have ar := s1.vals (fun u m => List.mem_append_right _ m) e1 e
        cases ar with
        | cons a1 a2 =>
          cases a2
          obtain ⟨f, a1⟩ := a1
          rw [rep_int s1.sub a1]
          split at k1
          · rename_i hr
            exact ⟨j, rfl, hr.1, hr.2, fin_i s1 hv1 (walk_range 0 j.toNat) k1⟩
          · exact k1.elim
      · rename_i t i u j e
        have := valL_len e
        simp at this
        have hl' : us.length = 1 := by simpa using hl
        omega
      · exact k1.elim
    · exact k1.elim
theorem ri_rng2 {fa fb : FE} {R : It → Hp → Prop} (h : RI K E (iRngF (fcons fa (fcons fb fnil))) σ H R) : iRng2 (RA K E (fcons fa (fcons fb fnil))) σ H R := by
  obtain ⟨Z, es, s, hv, k⟩ := h
  unfold iRngF at k
  have e0 : (fcons fa (fcons fb fnil) (ssOf es)).bind (fun p => krng p.1 p.2) = (fcons fa (fcons fb fnil) (ssOf es)).bind (fun p => if p.1.length = 2 then krng p.1 p.2 else .stuck) := by
    unfold fcons fnil
    cases fa (ssOf es) with
    | ok p =>
      show ((fb p.2).bind _ |>.bind _).bind _ = ((fb p.2).bind _ |>.bind _).bind _
      cases fb p.2 <;> rfl
    | _ => rfl
  rw [e0, ← List.append_nil es] at k
  refine RA.next (ts := []) (n := fun p => if p.1.length = 2 then krng p.1 p.2 else .stuck) s hv (by simpa only [List.append_nil] using k) fun Z1 H1 es1 us vs e1 s1 hv1 k1 => ?_
  · rw [List.nil_append] at s1 k1
    dsimp only at k1
    split at k1
    · rename_i hl
      unfold krng at k1
      split at k1
      · rename_i t j e
        have := valL_len e
        simp at this
        have hl' : us.length = 2 := by simpa using hl
        omega
      · rename_i t i u j e
        have ar := s1.vals (fun u m => List.mem_append_right _ m) e1 e
        cases ar with
        | cons a1 a2 =>
          cases a2 with
          | cons a2 a3 =>
            cases a3
            obtain ⟨f, a1⟩ := a1
            obtain ⟨f, a2⟩ := a2
            rw [rep_int s1.sub a1, rep_int s1.sub a2]
            split at k1
            · rename_i hr
              exact ⟨i, j, rfl, ⟨hr.1.1, hr.1.2, hr.2.1, hr.2.2⟩, fin_i s1 hv1 (walk_range i (j - i).toNat) k1⟩
            · exact k1.elim
      · exact k1.elim
    · exact k1.elim
end
end Mi

/-! M14: comprehensions, two names at once, augmented names. -/
namespace Mi
open PySem PySem.Spec PyProof.Rows L2 Rt
/-- no exception leaves -/
abbrev noE : EW := fun _ _ _ _ => False
def Ro.nox {α : Type} : Ro α → Ro α
  | .exc _ _ _ => .stuck
  | m => m
def wipeS (ss : List Sl) : List Nat → List Sl
  | [] => ss
  | v :: vs => setS v .un (wipeS ss vs)
def restS (s0 ss : List Sl) : List Nat → List Sl
  | [] => ss
  | v :: vs => setS v ((s0[v]?).getD .un) (restS s0 ss vs)
def kpC (n : Nat) (vs : List Nat) : List Nat := (List.range n).filter fun i => decide (i ∉ vs)
def okW (n : Nat) (vs : List Nat) (ss : List Sl) : Bool := decide (ss.length = n) && vs.all fun v => match ss[v]? with
  | some .un => true
  | some (.fz _) => true
  | _ => false
def compD (g : FG) (ft : FT) (fe : FE) (vs : List Nat) : List D → List D → List Sl → Ro (List D × List Sl)
  | [], acc, ss => .ok (acc, ss)
  | d :: ds, acc, ss => match g (.fz d) ss with
    | .nx s1 => (ft s1).nox.bind fun b => if b.1 = true then ((ffrz fe b.2).nox.bind fun p => match p.1 with
        | .fz e => if acc.length < sizeLine then compD g ft fe vs ds (acc ++ [e]) (wipeS p.2 vs) else .stuck
        | _ => .stuck) else compD g ft fe vs ds acc (wipeS b.2 vs)
    | _ => .stuck
def kcomp (g : FG) (ft : FT) (fe : FE) (n : Nat) (vs : List Nat) (ds : List D) (ss : List Sl) : Ro (Sl × List Sl) :=
  if okW n vs ss = true then (compD g ft fe vs ds [] (wipeS ss vs)).bind fun q => .ok (.ow .o1 (.lst q.1), restS ss q.2 vs) else .stuck
def fComp (fi : FI) (g : FG) (ft : FT) (fe : FE) (n : Nat) (vs : List Nat) : FE := fun ss => (fi ss).bind fun p => kcomp g ft fe n vs p.1 p.2
section
variable {K : PySem.W.Frag} {E : EW} {E0 : XK} {kp : List Nat} {σ σ1 : L2.St} {Z H Z' H' Z1 H1 : Hp} {F F1 : List Addr} {es ts us es1 pre : List Ent} {v : V} {Q : VK}
theorem Sat.more {e : Ent} (s : Sat K Z H es ts) (ok : EntOk K Z H es e) (hf : e.fp = []) : Sat K Z H es (ts ++ [e]) ∧ fpsOf (es ++ (ts ++ [e])) = fpsOf (es ++ ts) := by
  have ef : fpsOf (es ++ (ts ++ [e])) = fpsOf (es ++ ts) := by simp [fpsOf, List.flatMap_append, hf]
  refine ⟨⟨s.sub, by rw [ef]; exact s.nd, fun a m => s.zf a (by rw [← ef]; exact m), fun u m => ?_⟩, ef⟩
  rw [← List.append_assoc] at m
  rcases List.mem_append.mp m with q | q
  · exact s.ok u q
  · obtain rfl := List.mem_singleton.mp q; exact ok
theorem Sat.wipe {ts : List Ent} (hts : NoAl ts) : ∀ {vs : List Nat} {es : List Ent}, Sat K Z H es ts → (∀ v ∈ vs, v < es.length) → ∃ es', Sat K Z H es' ts ∧ (∀ a ∈ fpsOf (es' ++ ts), a ∈ fpsOf (es ++ ts)) ∧ vsOf es' = L2.wipe (vsOf es) vs ∧ ssOf es' = wipeS (ssOf es) vs ∧ es'.length = es.length
  | [], es, s, _ => ⟨es, s, fun _ m => m, rfl, rfl, rfl⟩
  | v :: vs, es, s, h => by
    obtain ⟨es1, s1, h1, h2, h3, h4⟩ := Sat.wipe hts (vs := vs) s fun w m => h w (List.mem_cons_of_mem _ m)
    obtain ⟨s2, ef⟩ := s1.more (e := ⟨none, .un, []⟩) rfl rfl
    have hv : v < es1.length := by rw [h4]; exact h v List.mem_cons_self
    obtain ⟨es2, g1, g2, g3, g4⟩ := s2.assign hv (fun e m j q => absurd q (hts e m j))
    refine ⟨es2, g1, fun a m => h1 a (by rw [← ef]; exact g2 a m), by rw [g3, h2]; rfl, by rw [g4, h3]; rfl, ?_⟩
    have : (vsOf es2).length = (vsOf es1).length := by rw [g3, List.length_set]
    simp only [List.length_map] at this
    omega
/-- the comprehension's names are given back what they held -/
theorem Sat.rest {ts e0 : List Ent} (hts : NoAl ts) : ∀ {vs : List Nat} {es : List Ent}, Sat K Z H es ts → (∀ v ∈ vs, v < es.length) → (∀ v ∈ vs, ∃ u, e0[v]? = some u ∧ u.fp = [] ∧ EntOk K Z H [] u) → ∃ es', Sat K Z H es' ts ∧ (∀ a ∈ fpsOf (es' ++ ts), a ∈ fpsOf (es ++ ts)) ∧
    (∀ i, (vsOf es')[i]? = if i ∈ vs then (vsOf e0)[i]? else (vsOf es)[i]?) ∧ ssOf es' = restS (ssOf e0) (ssOf es) vs ∧ es'.length = es.length
  | [], es, s, _, _ => ⟨es, s, fun _ m => m, fun i => by simp, rfl, rfl⟩
  | v :: vs, es, s, h, hu => by
    obtain ⟨es1, s1, h1, h2, h3, h4⟩ := Sat.rest hts (vs := vs) s (fun w m => h w (List.mem_cons_of_mem _ m)) fun w m => hu w (List.mem_cons_of_mem _ m)
    obtain ⟨u, u1, u2, u3⟩ := hu v List.mem_cons_self
    obtain ⟨uv, us0, uf⟩ := u
    dsimp only at u2
    subst u2
    obtain ⟨s2, ef⟩ := s1.more (e := ⟨uv, us0, []⟩) u3.any rfl
    have hv : v < es1.length := by rw [h4]; exact h v List.mem_cons_self
    obtain ⟨es2, g1, g2, g3, g4⟩ := s2.assign hv (fun e m j q => absurd q (hts e m j))
    refine ⟨es2, g1, fun a m => h1 a (by rw [← ef]; exact g2 a m), fun i => ?_, ?_, ?_⟩
    · rw [g3, List.getElem?_set]
      by_cases q : v = i
      · subst q
        rw [if_pos rfl, if_pos (by simpa using hv), if_pos List.mem_cons_self, List.getElem?_map, u1]; rfl
      · rw [if_neg q, h2]
        have : (i ∈ v :: vs) ↔ i ∈ vs := by simp [Ne.symm q]
        simp only [this]
    · rw [g4, h3]
      have : (ssOf e0)[v]? = some us0 := by rw [List.getElem?_map, u1]; rfl
      show _ = setS v (((ssOf e0)[v]?).getD .un) _
      rw [this]; rfl
    · have : (vsOf es2).length = (vsOf es1).length := by rw [g3, List.length_set]
      simp only [List.length_map] at this
      omega
theorem wipe_in {σ : L2.St} {i : Nat} : ∀ {vs : List Nat}, i ∈ vs → i < σ.length → (L2.wipe σ vs)[i]? = some none
  | [], h, _ => by cases h
  | v :: vs, h, hl => by
    show ((L2.wipe σ vs).set v none)[i]? = _
    rw [List.getElem?_set]
    by_cases q : v = i
    · rw [if_pos q, if_pos (by rw [q, wipe_length]; exact hl)]
    · rw [if_neg q]
      exact wipe_in ((List.mem_cons.mp h).resolve_left (Ne.symm q)) hl
theorem wipe_kept {n : Nat} {vs : List Nat} {σ σ' : L2.St} (hn : σ.length = n) (h : Kept (kpC n vs) σ σ') : L2.wipe σ' vs = L2.wipe σ vs := by
  apply List.ext_getElem?
  intro i
  by_cases hi : i < n
  · by_cases m : i ∈ vs
    · rw [wipe_in m (by rw [h.1, hn]; exact hi), wipe_in m (by rw [hn]; exact hi)]
    · rw [wipe_out m, wipe_out m]
      exact h.2 i (List.mem_filter.mpr ⟨List.mem_range.mpr hi, by simpa using m⟩)
  · rw [List.getElem?_eq_none (by rw [wipe_length, h.1, hn]; omega), List.getElem?_eq_none (by rw [wipe_length, hn]; omega)]
theorem wipe_wipe {σ : L2.St} {vs : List Nat} : L2.wipe (L2.wipe σ vs) vs = L2.wipe σ vs := by
  apply List.ext_getElem?
  intro i
  by_cases hi : i < σ.length
  · by_cases m : i ∈ vs
    · rw [wipe_in m (by rw [wipe_length]; exact hi), wipe_in m hi]
    · rw [wipe_out m]
  · rw [List.getElem?_eq_none (by rw [wipe_length, wipe_length]; omega), List.getElem?_eq_none (by rw [wipe_length]; omega)]
theorem RI.next {β : Type} {f : FI} {n : List D × List Sl → Ro (β × List Sl)} {rs : β → List Sl} {P : β → Hp → Hp → List Ent → List Ent → Prop} {R : It → Hp → Prop} (s : Sat K Z1 H1 es1 []) (hv : vsOf es1 = σ) (k : Kon K E σ Z1 H1 (fpsOf es1) ((f (ssOf es1)).bind n) rs P)
    (h : ∀ ds Z2 H2 es2 J, Walk K Z2 J ds → Sat K Z2 H2 es2 [] → vsOf es2 = σ → Kon K E σ Z2 H2 (fpsOf es2) (n (ds, ssOf es2)) rs P → R J H2) : RI K E f σ H1 R := by
  refine ⟨Z1, es1, s, hv, kon_next (ts := []) s hv (by rw [List.append_nil]; exact k) fun a Z2 H2 es2 us e1 s2 e2 k2 J w => ?_⟩
  obtain rfl : us = [] := by simpa using e1
  refine h a Z2 H2 es2 J w s2 e2 ?_
  simpa only [List.append_nil] using k2
/-- what is to come of a comprehension, its list on the way -/
def CQ (K : PySem.W.Frag) (σ : L2.St) (Z H : Hp) (F : List Addr) (Da : Addr) (m : Ro (List D × List Sl)) (Q : VK) : Prop := match m with
  | .ok (acc, ss') => ∀ Z' H' es', Step Z H F Z' H' (fpsOf (es' ++ [⟨some (.ref Da), .ow .o1 (.lst acc), [Da]⟩])) → Sat K Z' H' es' [⟨some (.ref Da), .ow .o1 (.lst acc), [Da]⟩] → vsOf es' = σ → ssOf es' = ss' → Q (.ref Da) H'
  | _ => False
theorem CQ.from {m : Ro (List D × List Sl)} {Da : Addr} (st : Step Z H F Z1 H1 F1) (k : CQ K σ Z H F Da m Q) : CQ K σ Z1 H1 F1 Da m Q := by
  unfold CQ at k ⊢
  split at k
  · exact fun Z' H' es' st' => k Z' H' es' (st.tr st')
  · exact k
/-- an inner reading from CQ -/
theorem CQ.next {α : Type} {m : Ro (α × List Sl)} {n : α × List Sl → Ro (List D × List Sl)} {rm : α → List Sl} {Qm : α → Hp → Hp → List Ent → List Ent → Prop} {Da : Addr} {σ2 : L2.St} (s : Sat K Z1 H1 es1 ts) (hv : vsOf es1 = σ2) (k : CQ K σ Z1 H1 (fpsOf (es1 ++ ts)) Da (m.nox.bind n) Q)
    (h : ∀ a Z2 H2 es2 us, ssOf us = rm a → Sat K Z2 H2 es2 (ts ++ us) → vsOf es2 = σ2 → Le Z1 Z2 → CQ K σ Z2 H2 (fpsOf (es2 ++ (ts ++ us))) Da (n (a, ssOf es2)) Q → Qm a Z2 H2 es2 us) : Kon K noE σ2 Z1 H1 (fpsOf es1) m rm Qm := by
  cases m with
  | ok p =>
    obtain ⟨a, ss'⟩ := p
    intro Z2 H2 es2 us st s2 h1 h2 h3
    obtain ⟨s3, st3⟩ := s.frame st s2 (h1.trans hv.symm)
    refine h a Z2 H2 es2 us h3 s3 h1 st.z ?_
    subst h2
    exact CQ.from st3 k
  | exc c fs ss' => exact k.elim
  | stuck => exact k.elim
theorem compD_nox {g : FG} {ft : FT} {fe : FE} {vs : List Nat} : ∀ {ds acc : List D} {ss : List Sl} {c fs s'}, compD g ft fe vs ds acc ss ≠ .exc c fs s'
  | [], _, _, _, _, _ => fun h => by cases h
  | d :: ds, acc, ss, c, fs, s' => fun h => by
    unfold compD at h
    cases hg : g (.fz d) ss with
    | nx s1 =>
      rw [hg] at h
      dsimp only at h
      cases hb : ft s1 with
      | stuck => rw [hb] at h; cases h
      | exc _ _ _ => rw [hb] at h; cases h
      | ok b =>
        rw [hb] at h
        change (if b.1 = true then _ else _) = _ at h
        split at h
        · cases hp : ffrz fe b.2 with
          | stuck => rw [hp] at h; cases h
          | exc _ _ _ => rw [hp] at h; cases h
          | ok p =>
            rw [hp] at h
            obtain ⟨r, s2⟩ := p
            cases r with
            | fz e =>
              change (if acc.length < sizeLine then _ else _) = _ at h
              split at h
              · exact compD_nox h
              · cases h
            | un => cases h
            | ow _ _ => cases h
            | al _ => cases h
        · exact compD_nox h
    | _ => rw [hg] at h; cases h
/-- what is on the way, and is no name's, stands whatever becomes of the names -/
theorem Sat.frameN {Z2 H2 : Hp} {es2 : List Ent} (hn : NoAl ts) (s : Sat K Z1 H1 es1 ts) (st : Step Z1 H1 (fpsOf es1) Z2 H2 (fpsOf (es2 ++ us))) (s2 : Sat K Z2 H2 es2 us) :
    Sat K Z2 H2 es2 (ts ++ us) ∧ Step Z1 H1 (fpsOf (es1 ++ ts)) Z2 H2 (fpsOf (es2 ++ (ts ++ us))) := by
  have al : ∀ a ∈ fpsOf ts, ∃ o, H1 a = some o := fun a m => s.alive a (fps_app.mpr (.inr m))
  have nd := s.nd
  simp only [fpsOf, List.flatMap_append, List.nodup_append] at nd
  have nf : ∀ a ∈ fpsOf ts, a ∉ fpsOf es1 := fun a m z => nd.2.2 a z a m rfl
  have n2 : ∀ a ∈ fpsOf ts, a ∉ fpsOf (es2 ++ us) := fun a m z => by
    rcases st.fps a z with q | q
    · exact nf a m q
    · obtain ⟨o, e⟩ := al a m; rw [e] at q; cases q
  refine ⟨⟨s2.sub, ?_, fun a m => ?_, fun e m => ?_⟩, ?_⟩
  · have h2 := s2.nd
    simp only [fpsOf, List.flatMap_append, List.nodup_append] at h2 ⊢
    refine ⟨h2.1, ⟨nd.2.1, h2.2.1, fun a m b mb z => ?_⟩, fun a m b mb z => ?_⟩
    · subst z; exact n2 a m (fps_app.mpr (.inr mb))
    · subst z
      rcases List.mem_append.mp mb with q | q
      · exact n2 a q (fps_app.mpr (.inl m))
      · exact h2.2.2 a m a q rfl
  · rcases fps_app.mp m with q | q
    · exact s2.zf a (fps_app.mpr (.inl q))
    · rcases fps_app.mp q with q | q
      · cases e : Z2 a with
        | none => rfl
        | some o =>
          rcases st.zn a o e with z | z | z
          · rw [s.zf a (fps_app.mpr (.inr q))] at z; cases z
          · exact (nf a q z).elim
          · obtain ⟨o', e'⟩ := al a q; rw [e'] at z; cases z
      · exact s2.zf a (fps_app.mpr (.inr q))
  · rcases List.mem_append.mp m with q | q
    · exact s2.ok e (List.mem_append_left _ q)
    · rcases List.mem_append.mp q with q | q
      · exact ((s.ok e (List.mem_append_right _ q)).noAl (us := es1) (hn e q)).frame st.z (fun a ma o e' => st.keep a o e' (nf a (mem_fps.mpr ⟨e, q, ma⟩))) rfl |>.noAl (hn e q)
      · exact s2.ok e (List.mem_append_right _ q)
  · refine ⟨fun a o e n => st.keep a o e fun z => n (fps_app.mpr (.inl z)), fun a m => ?_, st.z, fun a o e => ?_⟩
    · rcases fps_app.mp m with q | q
      · exact (st.fps a (fps_app.mpr (.inl q))).imp (fun z => fps_app.mpr (.inl z)) id
      · rcases fps_app.mp q with q | q
        · exact .inl (fps_app.mpr (.inr q))
        · exact (st.fps a (fps_app.mpr (.inr q))).imp (fun z => fps_app.mpr (.inl z)) id
    · exact (st.zn a o e).imp id fun z => z.imp (fun z => fps_app.mpr (.inl z)) id
theorem re_comp {fi : FI} {g : FG} {ft : FT} {fe : FE} {n : Nat} {vs : List Nat} (ho : ∀ r ss, OnOnly (g r ss)) (h : RE K E (fComp fi g ft fe n vs) σ H Q) : tLc (RI K E fi) (RG K noE (kpC n vs) g) (RT K noE ft) (RE K noE fe) vs σ H Q := by
  obtain ⟨Z, es, s, hv, k⟩ := h
  refine RI.next (n := fun p => kcomp g ft fe n vs p.1 p.2) s hv k fun ds Z2 H2 es2 J w s2 hv2 k2 => ?_
  intro Da nD
  dsimp only at k2
  unfold kcomp at k2
  by_cases hw : okW n vs (ssOf es2) = true
  · rw [if_pos hw] at k2
    unfold okW at hw
    rw [Bool.and_eq_true, decide_eq_true_eq, List.all_eq_true] at hw
    obtain ⟨hlen, hall⟩ := hw
    have hlen2 : es2.length = n := by simpa using hlen
    have hσ : σ.length = n := by rw [← hv2]; simpa using hlen
    have hvs : ∀ v ∈ vs, ∃ u, es2[v]? = some u ∧ u.fp = [] ∧ EntOk K Z2 H2 [] u := fun v m => by
      have := hall v m
      cases q : es2[v]? with
      | none => rw [show (ssOf es2)[v]? = none by rw [List.getElem?_map, q]; rfl] at this; cases this
      | some u =>
        rw [show (ssOf es2)[v]? = some u.s by rw [List.getElem?_map, q]; rfl] at this
        have ok := s2.ok u (List.mem_append_left _ (List.mem_of_getElem? q))
        cases hs : u.s with
        | un => unfold EntOk at ok; rw [hs] at ok; exact ⟨u, rfl, ok, by unfold EntOk; rw [hs]; exact ok⟩
        | fz d =>
          unfold EntOk at ok; rw [hs] at ok
          obtain ⟨x, q1, q2, q3⟩ := ok
          exact ⟨u, rfl, q3, by unfold EntOk; rw [hs]; exact ⟨x, q1, q2, q3⟩⟩
        | ow t d => rw [hs] at this; cases this
        | al j => rw [hs] at this; cases this
    have hlt : ∀ v ∈ vs, v < es2.length := fun v m => by
      obtain ⟨u, q, _⟩ := hvs v m
      exact (List.getElem?_eq_some_iff.mp q).1
    -- the new list
    obtain ⟨s3, st3⟩ := s2.new (New.o1 (o := .lst []) (d := .lst []) s2.sub nD rfl rfl .nil)
    simp only [List.nil_append, List.append_nil] at s3 st3
    have nal : ∀ acc : List D, NoAl [(⟨some (.ref Da), .ow .o1 (.lst acc), [Da]⟩ : Ent)] := fun acc e m j z => by
      obtain rfl := List.mem_singleton.mp m
      cases z
    obtain ⟨es3, s4, sb4, hv4, hs4, hl4⟩ := Sat.wipe (vs := vs) (nal []) s3 hlt
    -- the end, from the comprehension's own states
    have kq : CQ K (L2.wipe σ vs) Z2 (upd H2 Da (.lst [])) (fpsOf (es3 ++ [⟨some (.ref Da), .ow .o1 (.lst []), [Da]⟩])) Da (compD g ft fe vs ds [] (ssOf es3)) Q := by
      rw [hs4]
      cases hc : compD g ft fe vs ds [] (wipeS (ssOf es2) vs) with
      | stuck => rw [hc] at k2; exact k2.elim
      | exc c fs ss =>
        exact absurd hc compD_nox
      | ok p =>
        obtain ⟨acc, sE⟩ := p
        rw [hc] at k2
        intro Z' H' es' st s' e1 e2
        have le : Le Z2 Z' := st.z
        have hl' : es'.length = n := by
          have := congrArg List.length e1
          rw [wipe_length] at this
          simp only [List.length_map] at this
          omega
        obtain ⟨es4, g1, g2, g3, g4, g5⟩ := Sat.rest (e0 := es2) (vs := vs) (nal acc) s' (fun v m => by rw [hl', ← hlen2]; exact hlt v m) (fun v m => by
          obtain ⟨u, q1, q2, q3⟩ := hvs v m
          refine ⟨u, q1, q2, ?_⟩
          exact q3.frame le (fun a ma => by rw [q2] at ma; cases ma) rfl)
        refine k2 Z' H' es4 [⟨some (.ref Da), .ow .o1 (.lst acc), [Da]⟩] ?_ g1 ?_ (by rw [g4, e2]) rfl (.ref Da) rfl
        · refine ((st3.less sb4).tr st).less g2 |>.wide ?_ |>.less fun _ m => m
          exact fun c m => m
        · apply List.ext_getElem?
          intro i
          rw [g3]
          by_cases m : i ∈ vs
          · rw [if_pos m, hv2]
          · rw [if_neg m, e1, wipe_out m]
    clear k2
    refine ⟨fun i m H => m = ds.length - i ∧ i ≤ ds.length ∧ ∃ Z es acc, Le Z2 Z ∧ Sat K Z H es [⟨some (.ref Da), .ow .o1 (.lst acc), [Da]⟩] ∧ vsOf es = L2.wipe σ vs ∧
      CQ K (L2.wipe σ vs) Z H (fpsOf (es ++ [⟨some (.ref Da), .ow .o1 (.lst acc), [Da]⟩])) Da (compD g ft fe vs (ds.drop i) acc (ssOf es)) Q, ⟨ds.length, by simp, Nat.zero_le _, Z2, es3, [], Le.refl _, s4, by rw [hv4, hv2], kq⟩, ?_⟩
    rintro i m H ⟨rfl, hi, Z, es, acc, le, s, hv, k⟩
    by_cases hlt2 : i < ds.length
    · have e0 : ds.drop i = ds[i] :: ds.drop (i + 1) := List.drop_eq_getElem_cons hlt2
      rw [e0] at k
      refine .inr ⟨w.go i Z H le s.sub hlt2, fun H' => ∃ Z es acc, Le Z2 Z ∧ Sat K Z H' es [⟨some (.ref Da), .ow .o1 (.lst acc), [Da]⟩] ∧ vsOf es = L2.wipe σ vs ∧
        CQ K (L2.wipe σ vs) Z H' (fpsOf (es ++ [⟨some (.ref Da), .ow .o1 (.lst acc), [Da]⟩])) Da (compD g ft fe vs (ds.drop (i + 1)) acc (ssOf es)) Q, fun H' q => ⟨ds.length - (i + 1), by omega, rfl, hlt2, q⟩, fun x H' y => ?_⟩
      obtain ⟨Z', nw⟩ := w.yld i Z H x H' ds[i] le s.sub (List.getElem?_eq_getElem hlt2) y
      obtain ⟨s', st'⟩ := s.new nw
      unfold compD at k
      have k' := CQ.from st' k
      have s'' : Sat K Z' H' es [⟨some x, .fz ds[i], []⟩] := Sat.dropL s'
      refine ⟨Z', es, .fz ds[i], [], s'', hv, ?_⟩
      have hσ2 : (L2.wipe σ vs).length = n := by rw [wipe_length]; exact hσ
      cases hg : g (.fz ds[i]) (ssOf es) with
      | exc c fs ss1 => rw [hg] at k'; exact k'.elim
      | stuck => rw [hg] at k'; exact k'.elim
      | rt r ss1 => have := ho (.fz ds[i]) (ssOf es); rw [hg] at this; exact this.elim
      | bk ss1 => have := ho (.fz ds[i]) (ssOf es); rw [hg] at this; exact this.elim
      | ct ss1 => have := ho (.fz ds[i]) (ssOf es); rw [hg] at this; exact this.elim
      | nx ss1 =>
        rw [hg] at k'
        intro Z3 H3 es3' st3' s3' kd3 e3
        have sD : Sat K Z' H' es [⟨some (.ref Da), .ow .o1 (.lst acc), [Da]⟩] := Sat.drop s'
        have efx : fpsOf (es ++ [(⟨some x, .fz ds[i], []⟩ : Ent)]) = fpsOf es := by simp [fpsOf, List.flatMap_append]
        rw [efx] at st3'
        obtain ⟨s5, st5⟩ := Sat.frameN (us := []) (nal acc) sD (by rw [List.append_nil]; exact st3') s3'
        simp only [List.append_nil] at s5 st5
        refine ⟨by rw [wipe_kept hσ2 kd3, wipe_wipe], ?_⟩
        have hl3 : es3'.length = n := by have := kd3.1; rw [hσ2] at this; simpa using this
        have k3 : CQ K (L2.wipe σ vs) Z3 H3 (fpsOf (es3' ++ [⟨some (.ref Da), .ow .o1 (.lst acc), [Da]⟩])) Da ((ft (ssOf es3')).nox.bind fun b => if b.1 = true then ((ffrz fe b.2).nox.bind fun p => match p.1 with
            | .fz e => if acc.length < sizeLine then compD g ft fe vs (ds.drop (i + 1)) (acc ++ [e]) (wipeS p.2 vs) else .stuck
            | _ => .stuck) else compD g ft fe vs (ds.drop (i + 1)) acc (wipeS b.2 vs)) Q := by
          rw [e3]
          refine CQ.from (st5.wide fun c m => ?_) k'
          simp only [fpsOf, List.flatMap_append, List.flatMap_cons, List.flatMap_nil, List.append_nil] at m ⊢
          simpa using m
        -- back to a turn's beginning
        have again : ∀ (Z4 H4 : Hp) (es4 : List Ent) (acc' : List D), Le Z2 Z4 → Sat K Z4 H4 es4 [⟨some (.ref Da), .ow .o1 (.lst acc'), [Da]⟩] → vsOf es4 = vsOf es3' →
            CQ K (L2.wipe σ vs) Z4 H4 (fpsOf (es4 ++ [⟨some (.ref Da), .ow .o1 (.lst acc'), [Da]⟩])) Da (compD g ft fe vs (ds.drop (i + 1)) acc' (wipeS (ssOf es4) vs)) Q →
            ∃ Z es acc, Le Z2 Z ∧ Sat K Z H4 es [⟨some (.ref Da), .ow .o1 (.lst acc), [Da]⟩] ∧ vsOf es = L2.wipe σ vs ∧ CQ K (L2.wipe σ vs) Z H4 (fpsOf (es ++ [⟨some (.ref Da), .ow .o1 (.lst acc), [Da]⟩])) Da (compD g ft fe vs (ds.drop (i + 1)) acc (ssOf es)) Q := by
          intro Z4 H4 es4 acc' le4 s4 hv4 k4
          have hl4 : es4.length = n := by
            have := congrArg List.length hv4
            simp only [List.length_map] at this
            omega
          obtain ⟨es5, q1, q2, q3, q4, q5⟩ := Sat.wipe (vs := vs) (nal acc') s4 (fun v m => by rw [hl4, ← hlen2]; exact hlt v m)
          refine ⟨Z4, es5, acc', le4, q1, by rw [q3, hv4, wipe_kept hσ2 kd3, wipe_wipe], ?_⟩
          rw [q4]
          exact CQ.from (Step.refl q2) k4
        refine ⟨Z3, es3', s3', rfl, CQ.next (ts := [⟨some (.ref Da), .ow .o1 (.lst acc), [Da]⟩]) s5 rfl k3 fun b Z4 H4 es4 us e1 s6 hv6 le6 k6 => ?_⟩
        obtain rfl : us = [] := by simpa using e1
        rw [List.append_nil] at s6 k6
        have le4 : Le Z2 Z4 := le.tr (nw.step.z.tr (st3'.z.tr le6))
        cases b with
        | false =>
          rw [if_neg (by decide)]
          exact again Z4 H4 es4 acc le4 s6 hv6 k6
        | true =>
          rw [if_pos rfl]
          refine re_frz ?_
          rw [← hv6]
          refine ⟨Z4, es4, s6.bare, rfl, CQ.next (ts := [⟨some (.ref Da), .ow .o1 (.lst acc), [Da]⟩]) s6 rfl k6 fun r Z5 H5 es5 us e1 s7 hv7 le7 k7 y e8 => ?_⟩
          obtain ⟨u, rfl⟩ : ∃ u, us = [u] := List.length_eq_one_iff.mp (by have := congrArg List.length e1; simpa using this)
          obtain ⟨uv, usl, ufp⟩ := u
          simp only [List.map_cons, List.map_nil, List.cons.injEq, and_true] at e1 e8
          subst e1 e8
          cases usl with
          | un => exact k7.elim
          | ow _ _ => exact k7.elim
          | al _ => exact k7.elim
          | fz e =>
            change CQ K _ Z5 H5 _ Da (if acc.length < sizeLine then _ else _) Q at k7
            split at k7
            · rename_i hsz
              obtain ⟨y', y1, y2, y3⟩ := s7.ok ⟨some y, .fz e, ufp⟩ (by simp)
              cases y1
              dsimp only at y3
              subst y3
              obtain ⟨d', d1, d2⟩ := s7.ok ⟨some (.ref Da), .ow .o1 (.lst acc), [Da]⟩ (by simp)
              cases d1
              rcases d2 with ⟨d2, _⟩ | ⟨a, o, kk, vs', ds', e9, h5, ov, dv, fr, _⟩
              · cases d2
              · cases e9
                cases dv
                have ho' := oview_lst ov
                subst ho'
                refine ⟨vs', h5, by rw [fr.len]; exact hsz, ?_⟩
                have s8 : Sat K Z5 H5 es5 [⟨some (.ref Da), .ow .o1 (.lst acc), [Da]⟩] := s7.drop
                have na : Da ∉ fpsOf es5 := fun m => by
                  have nd := s8.nd
                  simp only [fpsOf, List.flatMap_append, List.nodup_append] at nd
                  exact nd.2.2 Da m Da (by simp) rfl
                obtain ⟨s9, st9⟩ := s8.write (a := Da) (o := .lst (vs' ++ [y])) (d' := .lst (acc ++ [e])) (fps_app.mpr (.inr (by simp))) (Wr.refl na) (.cons (.inr ⟨rfl, rfl, rfl⟩) .nil) rfl rfl (fr.app (.cons y2 .nil))
                refine again Z5 (upd H5 Da (.lst (vs' ++ [y]))) es5 (acc ++ [e]) (le4.tr le7) s9 (hv7.trans hv6) ?_
                refine CQ.from (st9.wide fun c m => ?_) k7
                simp only [fpsOf, List.flatMap_append, List.flatMap_cons, List.flatMap_nil, List.append_nil] at m ⊢
                simpa using m
            · exact k7.elim
    · have e : i = ds.length := by omega
      subst e
      rw [List.drop_length] at k
      exact .inl ⟨w.stop Z H le s.sub, k Z H es (Step.refl fun a m => m) s hv rfl⟩
  · rw [if_neg hw] at k2
    exact k2.elim
end
end Mi

/-! M15: stores, further statements; the rules as they are put together. -/
namespace Mi
open PySem PySem.Spec PyProof.Rows L2 Rt
section
variable {K : PySem.W.Frag} {E : EW} {E0 : XK} {kp : List Nat} {σ σ1 : L2.St} {Z H Z' H' Z1 H1 : Hp} {F F1 : List Addr} {es ts us es1 pre : List Ent} {v : V} {Q : VK} {De : Ends}
/-! ### a, b = e1, e2 -/
def kpar (i j : Nat) (rs ss : List Sl) : So := match rs with
  | [a, b] => if (∀ k, a = .al k → k ≠ j) ∧ i ≠ j then (kset j b ss).seq fun s => kset i a s else .stuck
  | _ => .stuck
def fPar2 (i j : Nat) (ft : FA) : FS := fun ss => (ft ss).so fun p => kpar i j p.1 p.2
theorem two_of {x y : Ent} {vs : List V} (h : vsOf [x, y] = vs.map some) : ∃ a b, vs = [a, b] ∧ x.v = some a ∧ y.v = some b := by
  have hl : vs.length = 2 := by have := congrArg List.length h; simpa using this.symm
  match vs, hl with
  | [a, b], _ =>
    simp only [List.map_cons, List.map_nil, List.cons.injEq, and_true] at h
    exact ⟨a, b, rfl, h.1, h.2⟩
theorem rs_par {i j : Nat} {ft : FA} (hi : i ∉ kp) (hj : j ∉ kp) (h : RS K E kp (fPar2 i j ft) De σ H) : tPar i j (RA K E ft) De σ H := by
  obtain ⟨Z, es, s, hv, k⟩ := h
  refine RA.so (ts := []) (n := fun p => kpar i j p.1 p.2) s hv (by rw [List.append_nil]; exact k) fun Z1 H1 es1 us vs e1 s1 hv1 k1 => ?_
  rw [List.nil_append] at s1 k1
  dsimp only at k1
  unfold kpar at k1
  split at k1
  · rename_i a b eab
    split at k1
    · rename_i hc
      obtain ⟨ea, eb, rfl⟩ : ∃ ea eb, us = [ea, eb] := by
        match us, eab with
        | [x, y], _ => exact ⟨x, y, rfl⟩
      simp only [List.map_cons, List.map_nil, List.cons.injEq, and_true] at eab
      obtain ⟨rfl, rfl⟩ := eab
      obtain ⟨va, vb, rfl, eA, eB⟩ := two_of e1
      refine ⟨va, vb, rfl, ?_⟩
      obtain ⟨v1, s_1, f1⟩ := ea
      obtain ⟨v2, s_2, f2⟩ := eb
      obtain rfl : v1 = some va := eA
      obtain rfl : v2 = some vb := eB
      unfold kset at k1
      by_cases hjl : j < (ssOf es1).length
      · rw [if_pos hjl] at k1
        obtain ⟨es2, s2, g1, g2, g3⟩ := Sat.assign (ts := [⟨some va, s_1, f1⟩]) (i := j) s1 (by simpa using hjl) (fun e m k' q => by
          obtain rfl := List.mem_singleton.mp m
          exact hc.1 k' q)
        change SK K E kp σ Z1 H1 _ (if i < (setS j s_2 (ssOf es1)).length then _ else _) De at k1
        rw [← g3] at k1
        by_cases hil : i < (ssOf es2).length
        · rw [if_pos hil] at k1
          obtain ⟨es3, s3, q1, q2, q3⟩ := Sat.assign (ts := []) (i := i) s2 (by simpa using hil) (by simp)
          have hk : Kept kp σ (vsOf es3) := by
            rw [q2, g2, hv1]
            exact (kept_set hj).tr (kept_set hi)
          have := k1 Z1 H1 es3 (Step.refl fun a m => g1 a (q1 a (by rw [List.append_nil]; exact m))) s3 hk q3
          rw [q2, g2, hv1, List.set_comm _ _ (Ne.symm hc.2)] at this
          exact this
        · rw [if_neg hil] at k1; exact k1.elim
      · rw [if_neg hjl] at k1; exact k1.elim
    · exact k1.elim
  · exact k1.elim
/-! ### x op= e, x a number or a text -/
def kaug (op : Tg → D → Tg → D → Option Sl) (i : Nat) (x y : Sl) (ss : List Sl) : So := match k2 op x y ss with
  | .ok (.fz d, s) => kset i (.fz d) s
  | _ => .stuck
def fAug (op : Tg → D → Tg → D → Option Sl) (i : Nat) (fe : FE) : FS := fun ss => match fvar i ss with
  | .ok (.fz x, s) => (fe s).so fun p => kaug op i (.fz x) p.1 p.2
  | _ => .stuck
/-- operators in place whose answer is a plain value -/
def Ip2 (K : PySem.W.Frag) (r : TIp) (op : Tg → D → Tg → D → Option Sl) : Prop := ∀ {Z H : Hp} {t u : Tg} {d e : D} {v w : V} {fp fq : List Addr} {d' : D} {Q : VK}, Sub Z H → Rep K Z H t v d fp → Rep K Z H u w e fq → op t d u e = some (.fz d') → (∀ Z' H' z fz, New K Z H Z' H' z (.fz d') fz → Q z H') → r v w H Q
theorem rs_aug {op : Tg → D → Tg → D → Option Sl} {r : TIp} {i : Nat} {fe : FE} (ho : Ip2 K r op) (hk : i ∉ kp) (h : RS K E kp (fAug op i fe) De σ H) : tAug i (RE K E fe) r De σ H := by
  obtain ⟨Z, es, s, hv, k⟩ := h
  unfold fAug fvar at k
  cases hu : es[i]? with
  | none => rw [show (ssOf es)[i]? = none by rw [List.getElem?_map, hu]; rfl] at k; exact k.elim
  | some u =>
    rw [show (ssOf es)[i]? = some u.s by rw [List.getElem?_map, hu]; rfl] at k
    cases hs : u.s with
    | un => rw [hs] at k; exact k.elim
    | ow _ _ => rw [hs] at k; exact k.elim
    | al _ => rw [hs] at k; exact k.elim
    | fz x =>
      rw [hs] at k
      dsimp only at k
      have ok := s.ok u (List.mem_append_left _ (List.mem_of_getElem? hu))
      unfold EntOk at ok
      rw [hs] at ok
      obtain ⟨xv, x1, x2, x3⟩ := ok
      refine ⟨xv, vs_at hv hu x1, ?_⟩
      obtain ⟨s0, e0⟩ := s.more (e := ⟨some xv, .fz x, []⟩) ⟨xv, rfl, x2, rfl⟩ rfl
      rw [List.nil_append] at s0 e0
      rw [List.append_nil] at e0
      refine RE.so (ts := [⟨some xv, .fz x, []⟩]) (n := fun p => kaug op i (.fz x) p.1 p.2) s0 hv (by rw [e0]; exact k) fun r2 Z2 H2 es2 y fp s2 hv2 k2' => ?_
      dsimp only at k2'
      unfold kaug at k2'
      cases hr : ((Sl.fz x).val (ssOf es2)).bind fun a => (r2.val (ssOf es2)).bind fun b => op a.1 a.2 b.1 b.2 with
      | none => unfold k2 at k2'; rw [hr] at k2'; exact k2'.elim
      | some r3 =>
        unfold k2 at k2'
        rw [hr] at k2'
        cases r3 with
        | un => exact k2'.elim
        | ow _ _ => exact k2'.elim
        | al _ => exact k2'.elim
        | fz d' =>
          obtain ⟨⟨t, d⟩, h1, h2⟩ := Option.bind_eq_some_iff.mp hr
          obtain ⟨⟨u', e⟩, h3, h4⟩ := Option.bind_eq_some_iff.mp h2
          obtain ⟨f, rp, _⟩ := s2.val (e := ⟨some xv, .fz x, []⟩) (by simp) rfl h1
          obtain ⟨f', rp', _⟩ := s2.val (e := ⟨some y, r2, fp⟩) (by simp) rfl h3
          refine ho s2.sub rp rp' h4 fun Z' H' z fz n => ?_
          obtain ⟨s3, st3⟩ := s2.new n
          refine sk_set (r := .fz d') hk (s3.dropL (ts := [⟨some xv, .fz x, []⟩] ++ [⟨some y, r2, fp⟩])) hv2 (SK.from (st3.less fps_dropL) (Kept.refl _) k2')
/-! ### o[i] = e -/
/-- what the store makes of what stood there -/
def stD (t : Tg) (d : D) (k : D) (x : D) : Option D := match d with
  | .lst xs => match k with
    | .int i => (ixN xs.length i).map fun j => .lst (xs.set j x)
    | _ => none
  | .dk kvs => (k.key?).bind fun k => if kvs.length < sizeLine then some (.dk (putD kvs k x)) else none
  | _ => none
/-- name i (or what it stands for) is written: r the owner, d what stands there now -/
def wrS (r : Sl) (d : D) (ss : List Sl) : Option (List Sl) := match r with
  | .al i => match ss[i]? with
    | some (.ow .o1 _) => some (ss.set i (.ow .o1 d))
    | _ => none
  | _ => none
theorem putD_rel {κ : Type} [DecidableEq κ] {Z : Hp} {gs : List (κ × V)} {kvs : List (κ × D)} {k : κ} {v : V} {d : D} (e : gs.map (·.1) = kvs.map (·.1)) (h : FReps K Z (gs.map (·.2)) (kvs.map (·.2))) (r : FRep K Z v d) :
    (putK gs k v).map (·.1) = (putD kvs k d).map (·.1) ∧ FReps K Z ((putK gs k v).map (·.2)) ((putD kvs k d).map (·.2)) := by
  have hany : (gs.any fun kv => decide (kv.1 = k)) = (kvs.any fun kv => decide (kv.1 = k)) := by
    have h1 : ∀ l : List (κ × V), (l.any fun kv => decide (kv.1 = k)) = (l.map (·.1)).any fun q => decide (q = k) := fun l => by rw [List.any_map]; rfl
    have h2 : ∀ l : List (κ × D), (l.any fun kv => decide (kv.1 = k)) = (l.map (·.1)).any fun q => decide (q = k) := fun l => by rw [List.any_map]; rfl
    rw [h1, h2, e]
  unfold putK putD
  rw [hany]
  by_cases q : (kvs.any fun kv => decide (kv.1 = k)) = true
  · rw [if_pos q, if_pos q]
    clear hany q
    induction gs generalizing kvs with
    | nil =>
      cases kvs with
      | nil => exact ⟨rfl, .nil⟩
      | cons _ _ => cases e
    | cons g gs ih =>
      cases kvs with
      | nil => cases e
      | cons kv kvs =>
        simp only [List.map_cons, List.cons.injEq] at e h
        cases h with
        | cons h1 h2 =>
          obtain ⟨i1, i2⟩ := ih e.2 h2
          have e1 := e.1
          by_cases q : kv.1 = k
          · have q' : g.1 = k := e1.trans q
            refine ⟨?_, ?_⟩
            · simp only [List.map_cons, if_pos q, if_pos q', List.cons.injEq]
              exact ⟨e1, i1⟩
            · simp only [List.map_cons, if_pos q, if_pos q']
              exact .cons r i2
          · have q' : ¬ g.1 = k := fun z => q (e1.symm.trans z)
            refine ⟨?_, ?_⟩
            · simp only [List.map_cons, if_neg q, if_neg q', List.cons.injEq]
              exact ⟨e1, i1⟩
            · simp only [List.map_cons, if_neg q, if_neg q']
              exact .cons h1 i2
  · rw [if_neg q, if_neg q, List.map_append, List.map_append, List.map_append, List.map_append, e]
    exact ⟨rfl, h.app (.cons r .nil)⟩
/-- what an owner of itself alone is -/
theorem own_node {e : Ent} {d : D} {k : Kd} {ds : List D} (ok : EntOk K Z H es e) (hs : e.s = .ow .o1 d) (hd : dview K d = some (k, ds)) : ∃ a o vs, e.v = some (.ref a) ∧ H a = some o ∧ oview o = some (k, vs) ∧ FReps K Z vs ds ∧ e.fp = [a] := by
  unfold EntOk at ok
  rw [hs] at ok
  obtain ⟨x, h1, h2⟩ := ok
  rcases h2 with ⟨h2, _⟩ | ⟨a, o, k', vs, ds', e1, h3, h4, h5, h6, h7⟩
  · cases h2 <;> cases hd
  · rw [hd] at h5; cases h5
    subst e1
    exact ⟨a, o, vs, h1, h3, h4, h6, h7⟩
/-- name i is written -/
theorem Sat.writeAt {i : Nat} {e : Ent} {a : Addr} {o : HO} {k : Kd} {vs : List V} {ds : List D} {d' : D} (s : Sat K Z H es ts) (he : es[i]? = some e) (hf : e.fp = [a]) (hv : e.v = some (.ref a)) (ho : oview o = some (k, vs)) (hd : dview K d' = some (k, ds)) (hs : FReps K Z vs ds) :
    ∃ es', Sat K Z (upd H a o) es' ts ∧ Step Z H (fpsOf (es ++ ts)) Z (upd H a o) (fpsOf (es' ++ ts)) ∧ vsOf es' = vsOf es ∧ ssOf es' = (ssOf es).set i (.ow .o1 d') := by
  have nd := s.nd
  simp only [fpsOf, List.flatMap_append, List.nodup_append] at nd
  have ma : a ∈ fpsOf es := mem_fps.mpr ⟨e, List.mem_of_getElem? he, by rw [hf]; simp⟩
  have w := Wr.set (d' := d') he hf hv nd.1
  obtain ⟨s', st⟩ := s.write (ts' := ts) (fps_app.mpr (.inl ma)) w (Wr.refl fun m => nd.2.2 a ma a m rfl) ho hd hs
  refine ⟨_, s', st, Wr.vs w, ?_⟩
  show (es.set i _).map Ent.s = _
  rw [List.map_set]
def kst (x : D) (ro ri : Sl) (ss : List Sl) : So := match ro with
  | .al i => match ss[i]? with
    | some (.ow .o1 d) => match (ri.val ss).bind fun kk => stD .o1 d kk.2 x with
      | some d' => .nx (ss.set i (.ow .o1 d'))
      | none => .stuck
    | _ => .stuck
  | _ => .stuck
/-- the target o[k]: the value is on the way already -/
def gSubF (fo fk : FE) : FG := fun r ss => match frzL [r] with
  | some [x] => (fo ss).so fun p => (fk p.2).so fun q => kst x p.1 q.1 q.2
  | _ => .stuck
theorem on_kst (x : D) (ro ri : Sl) (ss : List Sl) : OnOnly (kst x ro ri ss) := by
  unfold kst
  repeat (first | trivial | split)
theorem on_gSub (fo fk : FE) (r : Sl) (ss : List Sl) : OnOnly (gSubF fo fk r ss) := by
  unfold gSubF
  split
  · cases fo ss with
    | exc _ _ _ => trivial
    | stuck => trivial
    | ok p =>
      show OnOnly ((fk p.2).so _)
      cases fk p.2 with
      | exc _ _ _ => trivial
      | stuck => trivial
      | ok q => exact on_kst _ _ _ _
  · trivial
theorem rg_sub {fo fk : FE} {R : L2.St → Hp → Prop} (h : RG K E kp (gSubF fo fk) v σ H R) : gSub (RE K E fo) (RE K E fk) rSetU v σ H R := by
  obtain ⟨Z, es, r, fv, s, hv, k⟩ := h
  -- the value is frozen
  have key : ∀ x, frzL [r] = some [x] → SK K E kp σ Z H (fpsOf (es ++ [⟨some v, r, fv⟩])) ((fo (ssOf es)).so fun p => (fk p.2).so fun q => kst x p.1 q.1 q.2) (goOn R) → gSub (RE K E fo) (RE K E fk) rSetU v σ H R := by
    intro x hx k
    obtain ⟨Z1, s1, st1⟩ := s.freeze (Fzd.refl _) (Fzd.all _)
    have fr1 : FReps K Z1 [v] [x] := frz_reps (es := es) (us := [⟨some v, r, fv⟩]) (fun u m => s1.ok u (List.mem_append_right _ m)) hx rfl
    have frx : FRep K Z1 v x := by cases fr1 with | cons a _ => exact a
    have k1 := SK.from st1 (Kept.refl _) k
    refine RE.so (ts := [Ent.frz ⟨some v, r, fv⟩]) (n := fun p => (fk p.2).so fun q => kst x p.1 q.1 q.2) s1 hv k1 fun ro Z2 H2 es2 vo f2 s2 hv2 k2' => ?_
    refine RE.so (n := fun q => kst x ro q.1 q.2) s2 hv2 k2' fun ri Z3 H3 es3 vi f3 s3 hv3 k3' => ?_
    dsimp only at k3'
    unfold kst at k3'
    cases ro with
    | un => exact k3'.elim
    | fz _ => exact k3'.elim
    | ow _ _ => exact k3'.elim
    | al i =>
      dsimp only at k3'
      -- the owner
      have okO := s3.ok ⟨some vo, .al i, f2⟩ (by simp)
      obtain ⟨_, u, y, y1, y2, y3⟩ := okO
      cases y3
      rw [show (ssOf es3)[i]? = some u.s by rw [List.getElem?_map, y1]; rfl] at k3'
      have frx3 : FRep K Z3 v x := by
        have ok := s3.ok (Ent.frz ⟨some v, r, fv⟩) (by simp)
        cases r with
        | un => cases hx
        | al _ => cases hx
        | fz d =>
          cases hx
          obtain ⟨z, z1, z2, _⟩ := ok
          cases z1; exact z2
        | ow t d =>
          cases hx
          obtain ⟨z, z1, z2, _⟩ := ok
          cases z1; exact z2
      split at k3'
      · rename_i d hu
        have hu' : u.s = .ow .o1 d := by simpa using hu
        split at k3'
        · rename_i d' hd'
          obtain ⟨⟨tk, kk⟩, k4, k5⟩ := Option.bind_eq_some_iff.mp hd'
          obtain ⟨fk', rpk, _⟩ := s3.val (e := ⟨some vi, ri, f3⟩) (by simp) rfl k4
          have oku := s3.ok u (List.mem_append_left _ (List.mem_of_getElem? y1))
          unfold stD at k5
          split at k5
          · rename_i xs
            split at k5
            · rename_i j ej
              rw [show kk = D.int j from ej] at rpk
              obtain ⟨jj, j1, j2⟩ := Option.map_eq_some_iff.mp k5
              cases j2
              obtain ⟨a, o, vs, o1, o2, o3, o4, o5⟩ := own_node oku hu' (d := .lst xs) rfl
              have := oview_lst o3; subst this
              rw [y2] at o1; cases o1
              refine .inl ⟨a, vs, j, jj, rfl, rep_int s3.sub rpk, o2, by rw [o4.len]; exact j1, ?_⟩
              obtain ⟨es4, s4, st4, v4, e4⟩ := s3.writeAt (o := .lst (vs.set jj v)) (d' := .lst (xs.set jj x)) y1 o5 y2 rfl rfl (o4.set frx3 jj)
              have := k3' Z3 _ es4 (st4.less fun c m => fps_app.mpr (.inl m)) s4.bare (by rw [v4, hv3]; exact Kept.refl _) e4
              rw [v4, hv3] at this
              exact this
            · cases k5
          · rename_i kvs
            obtain ⟨q, q1, q2⟩ := Option.bind_eq_some_iff.mp k5
            split at q2
            · rename_i hl
              cases q2
              obtain ⟨a, o, vs, o1, o2, o3, o4, o5⟩ := own_node oku hu' (d := .dk kvs) rfl
              obtain ⟨gs, rfl, g1, g2⟩ := oview_dk o3
              rw [y2] at o1; cases o1
              have hkv := kV_of s3.sub rpk q1
              subst g2
              obtain ⟨p1, p2⟩ := putD_rel (k := q) g1 o4 frx3
              have hlen : gs.length = kvs.length := by have := congrArg List.length g1; simpa using this
              refine .inr ⟨a, _, rfl, by rw [hkv]; exact DPut.k o2 (by rw [hlen]; exact hl), ?_⟩
              obtain ⟨es4, s4, st4, v4, e4⟩ := s3.writeAt (o := .dK (putK gs q v)) (d' := .dk (putD kvs q x)) (k := .dk ((putD kvs q x).map (·.1))) y1 o5 y2 (by show some (Kd.dk _, _) = _; rw [p1]) rfl p2
              have := k3' Z3 _ es4 (st4.less fun c m => fps_app.mpr (.inl m)) s4.bare (by rw [v4, hv3]; exact Kept.refl _) e4
              rw [v4, hv3] at this
              exact this
            · cases q2
          · cases k5
        · exact k3'.elim
      · exact k3'.elim
  unfold gSubF at k
  cases r with
  | un => exact k.elim
  | al _ => exact k.elim
  | fz x => exact key x rfl k
  | ow t x => exact key x rfl k
end
end Mi

/-! M16: dict displays, methods that change their list or dict, stores to fields, keywords. -/
namespace Mi
open PySem PySem.Spec PyProof.Rows L2 Rt
section
variable {K : PySem.W.Frag} {E : EW} {E0 : XK} {kp : List Nat} {σ σ1 : L2.St} {Z H Z' H' Z1 H1 : Hp} {F F1 : List Addr} {es ts us es1 pre : List Ent} {v : V} {Q : VK} {De : Ends}
/-! ### dict displays -/
def pairsF : List (FE × FE) → FA
  | [], ss => .ok ([], ss)
  | p :: r, ss => (p.1 ss).bind fun a => (p.2 a.2).bind fun b => (pairsF r b.2).bind fun q => .ok (a.1 :: b.1 :: q.1, q.2)
def kvsOf : List D → Option (List (Key × D))
  | [] => some []
  | k :: d :: r => (k.key?).bind fun k => (kvsOf r).bind fun kvs => some ((k, d) :: kvs)
  | _ => none
def kdispD (rs ss : List Sl) : Ro (Sl × List Sl) := match (frzL rs).bind kvsOf with
  | some kvs => if kvs.length ≤ 15 ∧ (kvs.map (·.1)).Nodup then .ok (.ow .o1 (.dk kvs), ss) else .stuck
  | none => .stuck
def fDisp (ps : List (FE × FE)) : FE := fun ss => (pairsF ps ss).bind fun p => kdispD p.1 p.2
def flatP : List (V × V) → List V
  | [] => []
  | p :: r => p.1 :: p.2 :: flatP r
theorem tp_ok {β : Type} {rs : β → List Sl} {P : β → Hp → Hp → List Ent → List Ent → Prop} {n : List Sl × List Sl → Ro (β × List Sl)} : ∀ {ps : List (FE × FE)} {Z H : Hp} {es ts : List Ent} {S : List (V × V) → Hp → Prop}, Sat K Z H es ts → vsOf es = σ →
    Kon K E σ Z H (fpsOf (es ++ ts)) ((pairsF ps (ssOf es)).bind n) rs P →
    (∀ Z2 H2 es2 us vs, vsOf us = (flatP vs).map some → Sat K Z2 H2 es2 (ts ++ us) → vsOf es2 = σ → Kon K E σ Z2 H2 (fpsOf (es2 ++ (ts ++ us))) (n (ssOf us, ssOf es2)) rs P → S vs H2) →
    tPairs (ps.map fun p => (RE K E p.1, RE K E p.2)) σ H S
  | [], Z, H, es, ts, S, s, hv, k, h => h Z H es [] [] rfl (by simpa using s) hv (by rw [List.append_nil]; exact k)
  | p :: r, Z, H, es, ts, S, s, hv, k, h => by
    have k' : Kon K E σ Z H (fpsOf (es ++ ts)) ((p.1 (ssOf es)).bind fun a => (p.2 a.2).bind fun b => (pairsF r b.2).bind fun q => n (a.1 :: b.1 :: q.1, q.2)) rs P := by
      have : (pairsF (p :: r) (ssOf es)).bind n = (p.1 (ssOf es)).bind fun a => (p.2 a.2).bind fun b => (pairsF r b.2).bind fun q => n (a.1 :: b.1 :: q.1, q.2) := by
        show ((p.1 (ssOf es)).bind fun a => (p.2 a.2).bind fun b => (pairsF r b.2).bind fun q => .ok (a.1 :: b.1 :: q.1, q.2)).bind n = _
        cases p.1 (ssOf es) with
        | ok a =>
          show ((p.2 a.2).bind fun b => (pairsF r b.2).bind fun q => .ok (a.1 :: b.1 :: q.1, q.2)).bind n = (p.2 a.2).bind fun b => (pairsF r b.2).bind fun q => n (a.1 :: b.1 :: q.1, q.2)
          cases p.2 a.2 with
          | ok b =>
            show ((pairsF r b.2).bind fun q => .ok (a.1 :: b.1 :: q.1, q.2)).bind n = (pairsF r b.2).bind fun q => n (a.1 :: b.1 :: q.1, q.2)
            cases pairsF r b.2 <;> rfl
          | _ => rfl
        | _ => rfl
      rw [← this]; exact k
    refine RE.next (n := fun a => (p.2 a.2).bind fun b => (pairsF r b.2).bind fun q => n (a.1 :: b.1 :: q.1, q.2)) s hv k' fun a Z1 H1 es1 x fx s1 hv1 k1 => ?_
    refine RE.next (n := fun b => (pairsF r b.2).bind fun q => n (a :: b.1 :: q.1, q.2)) s1 hv1 k1 fun b Z2 H2 es2 y fy s2 hv2 k2 => ?_
    refine tp_ok (ps := r) (n := fun q => n (a :: b :: q.1, q.2)) s2 hv2 k2 fun Z3 H3 es3 us vs e3 s3 hv3 k3 => ?_
    refine h Z3 H3 es3 (⟨some x, a, fx⟩ :: ⟨some y, b, fy⟩ :: us) ((x, y) :: vs) ?_ (by simpa using s3) hv3 (by simpa using k3)
    show some x :: some y :: vsOf us = _
    rw [e3]; rfl
theorem kvs_rel : ∀ {vs : List (V × V)} {ds : List D} {kvs : List (Key × D)}, FReps K Z (flatP vs) ds → kvsOf ds = some kvs → ∃ gs : List (Key × V), vs = gs.map (fun kv => (kV kv.1, kv.2)) ∧ gs.map (·.1) = kvs.map (·.1) ∧ FReps K Z (gs.map (·.2)) (kvs.map (·.2))
  | [], _, _, .nil, h => by cases h; exact ⟨[], rfl, rfl, .nil⟩
  | (x, y) :: vs, k :: d :: r, kvs, .cons h1 (.cons h2 h3), h => by
    obtain ⟨q, e1, e2⟩ := Option.bind_eq_some_iff.mp h
    obtain ⟨kvs', e3, e4⟩ := Option.bind_eq_some_iff.mp e2
    cases e4
    obtain ⟨gs, g1, g2, g3⟩ := kvs_rel h3 e3
    refine ⟨(q, y) :: gs, ?_, by rw [List.map_cons, List.map_cons, g2], .cons h2 g3⟩
    rw [List.map_cons, g1]
    have : x = kV q := by
      cases k <;> cases e1
      · cases h1.leaf_of (d := .int _) rfl; rfl
      · cases h1.leaf_of (d := .str _) rfl; rfl
    rw [this]
theorem re_disp {ps : List (FE × FE)} (h : RE K E (fDisp ps) σ H Q) : tDisp (ps.map fun p => (RE K E p.1, RE K E p.2)) σ H Q := by
  obtain ⟨Z, es, s, hv, k⟩ := h
  intro p np
  obtain ⟨s1, st1⟩ := s.new (New.o1 (o := .dK []) (d := .dk []) s.sub np rfl rfl .nil)
  rw [List.nil_append] at s1 st1
  refine tp_ok (n := fun q => kdispD q.1 q.2) s1 hv (Kon.from st1 (by rw [List.append_nil]; exact k)) fun Z2 H2 es2 us vs e1 s2 hv2 k2 => ?_
  dsimp only at k2
  unfold kdispD at k2
  cases hd : (frzL (ssOf us)).bind kvsOf with
  | none => rw [hd] at k2; exact k2.elim
  | some kvs =>
    rw [hd] at k2
    dsimp only at k2
    obtain ⟨ds, d1, d2⟩ := Option.bind_eq_some_iff.mp hd
    split at k2
    · rename_i hc
      obtain ⟨Z3, s3, st3⟩ := s2.freeze (Fzd.refl es2) (Fzd.app (Fzd.refl [⟨some (.ref p), .ow .o1 (.dk []), [p]⟩]) (Fzd.all us))
      have fr := frz_reps (es := es2) (us := us) (fun u m => s3.ok u (by simp only [List.mem_append]; exact .inr (.inr m))) d1 e1
      obtain ⟨gs, g1, g2, g3⟩ := kvs_rel fr d2
      obtain ⟨y, y1, y2⟩ := s3.ok ⟨some (.ref p), .ow .o1 (.dk []), [p]⟩ (by simp)
      cases y1
      rcases y2 with ⟨y2, _⟩ | ⟨a, o, kk, vs', ds', e9, h5, ov, dv, fr', _⟩
      · cases y2
      · cases e9
        cases dv
        obtain ⟨gs0, rfl, z1, z2⟩ := oview_dk ov
        have : gs0 = [] := by cases gs0 with | nil => rfl | cons _ _ => cases z1
        subst this
        have hl : gs.length = kvs.length := by have := congrArg List.length g2; simpa using this
        refine ⟨h5, gs, g1, by rw [hl]; exact hc.1, ?_⟩
        rw [merge_nodup gs [] (by rw [List.nil_append, g2]; exact hc.2), List.nil_append]
        have s4 : Sat K Z3 H2 es2 [⟨some (.ref p), .ow .o1 (.dk []), [p]⟩] := s3.drop
        have na : p ∉ fpsOf es2 := fun m => by
          have nd := s4.nd
          simp only [fpsOf, List.flatMap_append, List.nodup_append] at nd
          exact nd.2.2 p m p (by simp) rfl
        obtain ⟨s5, st5⟩ := s4.write (a := p) (o := .dK gs) (k := .dk (kvs.map (·.1))) (d' := .dk kvs) (fps_app.mpr (.inr (by simp))) (Wr.refl na) (.cons (.inr ⟨rfl, rfl, rfl⟩) .nil) (by show some (Kd.dk _, _) = _; rw [g2]) rfl g3
        have st6 : Step Z2 H2 (fpsOf (es2 ++ ([⟨some (.ref p), .ow .o1 (.dk []), [p]⟩] ++ us))) Z3 H2 (fpsOf (es2 ++ [⟨some (.ref p), .ow .o1 (.dk []), [p]⟩])) := st3.less fun a m => by
          rcases fps_app.mp m with q | q
          · exact fps_app.mpr (.inl q)
          · exact fps_app.mpr (.inr (fps_app.mpr (.inl q)))
        exact k2 Z3 _ es2 [⟨some (.ref p), .ow .o1 (.dk kvs), [p]⟩] (st6.tr st5) s5 hv2 rfl rfl (.ref p) rfl
    · exact k2.elim
/-! ### methods of lists and dicts -/
def tyD (T : String) : D → Bool
  | .lst _ => decide (T = "list")
  | .str _ => decide (T = "str")
  | _ => false
theorem tyD_ok {T : String} {t : Tg} {d : D} {fp : List Addr} (s : Sub Z H) (h : Rep K Z H t v d fp) (e : tyD T d = true) : tyV K T v H := by
  cases d with
  | lst xs =>
    obtain ⟨a, vs, rfl, q, _⟩ := rep_lstR s h
    exact .inl ⟨of_decide_eq_true e, vs, .of q⟩
  | str x =>
    have e' : T = "str" := of_decide_eq_true e
    rw [rep_str s h]; exact e'
  | _ => cases e
/-- a method that changes nothing; the receiver first -/
def OpM (K : PySem.W.Frag) (r : V → List V → Hp → VK → Prop) (op : Tg → D → List (Tg × D) → Option Sl) : Prop := ∀ {Z H : Hp} {t : Tg} {d : D} {v : V} {fp : List Addr} {vs : List V} {xs : List (Tg × D)} {res : Sl} {Q : VK}, Sub Z H → Rep K Z H t v d fp → AllRep K Z H vs xs → op t d xs = some res → (∀ Z' H' z fz, New K Z H Z' H' z res fz → Q z H') → r v vs H Q
def kbm (op : Tg → D → List (Tg × D) → Option Sl) (r : Sl) (rs ss : List Sl) : Ro (Sl × List Sl) := orS ((r.val ss).bind fun x => (valL ss rs).bind fun ys => op x.1 x.2 ys) ss
def tyS (T : String) (r : Sl) (ss : List Sl) : Bool := match r.val ss with
  | some (_, d) => tyD T d
  | none => false
def fBM (T : String) (op : Tg → D → List (Tg × D) → Option Sl) (fo : FE) (ft : FA) : FE := fun ss => (fo ss).bind fun p => if tyS T p.1 p.2 = true then (ft p.2).bind fun q => kbm op p.1 q.1 q.2 else .stuck
theorem tyS_ok {T : String} {e : Ent} {x : V} (s : Sat K Z H es ts) (m : e ∈ es ++ ts) (hx : e.v = some x) (h : tyS T e.s (ssOf es) = true) : tyV K T x H := by
  unfold tyS at h
  split at h
  · rename_i t d e1
    obtain ⟨f, rp, _⟩ := s.val m hx e1
    exact tyD_ok s.sub rp h
  · cases h
theorem re_bm {T : String} {r : V → List V → Hp → VK → Prop} {op : Tg → D → List (Tg × D) → Option Sl} {fo : FE} {ft : FA} (ho : OpM K r op) (h : RE K E (fBM T op fo ft) σ H Q) : tBM K T r (RE K E fo) (RA K E ft) σ H Q := by
  obtain ⟨Z, es, s, hv, k⟩ := h
  refine RE.next (ts := []) (n := fun p => if tyS T p.1 p.2 = true then (ft p.2).bind fun q => kbm op p.1 q.1 q.2 else .stuck) s hv (by rw [List.append_nil]; exact k) fun a Z1 H1 es1 x fx s1 hv1 k1 => ?_
  dsimp only at k1
  split at k1
  · rename_i ht
    refine ⟨tyS_ok (e := ⟨some x, a, fx⟩) s1 (by simp) rfl ht, RA.next (n := fun q => kbm op a q.1 q.2) s1 hv1 k1 fun Z2 H2 es2 us vs e2 s2 hv2 k2 => ?_⟩
    obtain ⟨r', hr, k3⟩ := Kon.some k2
    obtain ⟨⟨t, d⟩, h1, h2⟩ := Option.bind_eq_some_iff.mp hr
    obtain ⟨ys, h3, h4⟩ := Option.bind_eq_some_iff.mp h2
    obtain ⟨f, rp, _⟩ := s2.val (e := ⟨some x, a, fx⟩) (by simp) rfl h1
    exact ho s2.sub rp (s2.vals (fun u m => by simp [m]) e2 h3) h4 fun Z' H' u fu n => fin_new s2 hv2 k3 n
  · exact k1.elim
/-- a method that changes its owner: what stands there then, what is told -/
def OpU (K : PySem.W.Frag) (r : V → List V → Hp → VK → Prop) (op : D → List D → Option (D × D)) : Prop := ∀ {Z H : Hp} {a : Addr} {o : HO} {k : Kd} {vs ws : List V} {d : D} {ds xs : List D} {d' res : D} {Q : VK}, Sub Z H → H a = some o → oview o = some (k, vs) → dview K d = some (k, ds) → FReps K Z vs ds → FReps K Z ws xs → op d xs = some (d', res) →
  (∀ o' k' vs' ds' z, oview o' = some (k', vs') → dview K d' = some (k', ds') → FReps K Z vs' ds' → FRep K Z z res → Q z (upd H a o')) → r (.ref a) ws H Q
def kmu (op : D → List D → Option (D × D)) (r : Sl) (rs ss : List Sl) : Ro (Sl × List Sl) := match r with
  | .al i => match ss[i]? with
    | some (.ow .o1 d) => match (frzL rs).bind fun xs => op d xs with
      | some q => .ok (.fz q.2, ss.set i (.ow .o1 q.1))
      | none => .stuck
    | _ => .stuck
  | _ => .stuck
def nodeD : D → Bool
  | .lst _ | .tup _ | .dk _ | .dt _ | .ins _ _ => true
  | _ => false
def fMU (T : String) (op : D → List D → Option (D × D)) (fo : FE) (ft : FA) : FE := fun ss => (fo ss).bind fun p => if tyS T p.1 p.2 = true then (ft p.2).bind fun q => kmu op p.1 q.1 q.2 else .stuck
theorem kmu_ok {r : V → List V → Hp → VK → Prop} {op : D → List D → Option (D × D)} {x : V} {a : Sl} {fx : List Addr} {vs : List V} (ho : OpU K r op) (hn : ∀ d xs q, op d xs = some q → nodeD d = true) (s : Sat K Z H es ([⟨some x, a, fx⟩] ++ us)) (hv : vsOf es = σ) (e : vsOf us = vs.map some)
    (k : KQ K E σ Z H (fpsOf (es ++ ([⟨some x, a, fx⟩] ++ us))) (kmu op a (ssOf us) (ssOf es)) Q) : r x vs H Q := by
  unfold kmu at k
  cases a with
  | un => exact k.elim
  | fz _ => exact k.elim
  | ow _ _ => exact k.elim
  | al i =>
    dsimp only at k
    obtain ⟨_, u, y, y1, y2, y3⟩ := s.ok ⟨some x, .al i, fx⟩ (by simp)
    cases y3
    rw [show (ssOf es)[i]? = some u.s by rw [List.getElem?_map, y1]; rfl] at k
    split at k
    · rename_i d hu
      have hu' : u.s = .ow .o1 d := by simpa using hu
      split at k
      · rename_i q hq
        obtain ⟨xs, x1, x2⟩ := Option.bind_eq_some_iff.mp hq
        obtain ⟨Z1, s1, st1⟩ := s.freeze (Fzd.refl es) (Fzd.app (Fzd.refl [⟨some x, .al i, fx⟩]) (Fzd.all us))
        have fr := frz_reps (es := es) (us := us) (fun u m => s1.ok u (by simp only [List.mem_append]; exact .inr (.inr m))) x1 e
        have k1 := Kon.from st1 k
        have s2 := s1.bare
        have oku := s2.ok u (List.mem_append_left _ (List.mem_of_getElem? y1))
        have nd := hn _ _ _ x2
        obtain ⟨kk, ds, hd⟩ : ∃ kk ds, dview K d = some (kk, ds) := by
          cases d <;> first | exact ⟨_, _, rfl⟩ | cases nd
        obtain ⟨b, o, ws, o1, o2, o3, o4, o5⟩ := own_node oku hu' hd
        rw [y2] at o1; cases o1
        refine ho s2.sub o2 o3 hd o4 fr x2 fun o' k' vs' ds' z v1 v2 v3 v4 => ?_
        obtain ⟨es4, s4, st4, v5, e4⟩ := s2.writeAt (o := o') (d' := q.1) y1 o5 y2 v1 v2 v3
        obtain ⟨s5, e5⟩ := s4.more (e := ⟨some z, .fz q.2, []⟩) ⟨z, rfl, v4, rfl⟩ rfl
        rw [List.nil_append] at s5 e5
        rw [List.append_nil] at e5
        refine k1 Z1 _ es4 [⟨some z, .fz q.2, []⟩] ?_ s5 (by rw [v5]; exact hv) e4 rfl z rfl
        rw [e5]
        have st4' : Step Z1 H (fpsOf es) Z1 (upd H b o') (fpsOf es4) := by simpa only [List.append_nil] using st4
        exact st4'.wide fun c m => fps_app.mpr (.inl m)
      · exact k.elim
    · exact k.elim
theorem re_mu {T : String} {r : V → List V → Hp → VK → Prop} {op : D → List D → Option (D × D)} {fo : FE} {ft : FA} (ho : OpU K r op) (hn : ∀ d xs q, op d xs = some q → nodeD d = true) (h : RE K E (fMU T op fo ft) σ H Q) : tBM K T r (RE K E fo) (RA K E ft) σ H Q := by
  obtain ⟨Z, es, s, hv, k⟩ := h
  refine RE.next (ts := []) (n := fun p => if tyS T p.1 p.2 = true then (ft p.2).bind fun q => kmu op p.1 q.1 q.2 else .stuck) s hv (by rw [List.append_nil]; exact k) fun a Z1 H1 es1 x fx s1 hv1 k1 => ?_
  dsimp only at k1
  split at k1
  · rename_i ht
    exact ⟨tyS_ok (e := ⟨some x, a, fx⟩) s1 (by simp) rfl ht, RA.next (n := fun q => kmu op a q.1 q.2) s1 hv1 k1 fun Z2 H2 es2 us vs e2 s2 hv2 k2 => kmu_ok ho hn s2 hv2 e2 k2⟩
  · exact k1.elim
def opAppend : D → List D → Option (D × D)
  | .lst xs, [x] => if xs.length < sizeLine then some (.lst (xs ++ [x]), .non) else none
  | _, _ => none
theorem opAppend_node : ∀ d xs q, opAppend d xs = some q → nodeD d = true := fun d xs q h => by
  unfold opAppend at h
  split at h
  · rfl
  · cases h
theorem op_append_ok : OpU K rAppend opAppend := by
  intro Z H a o k vs ws d ds xs d' res Q s ho hv hd fr frw e kk
  unfold opAppend at e
  split at e
  · rename_i ys x
    split at e
    · rename_i hl
      cases e
      cases hd
      have := oview_lst hv
      subst this
      cases frw with
      | cons f1 f2 =>
        cases f2
        exact ⟨a, vs, _, rfl, rfl, ho, by rw [fr.len]; exact hl, kk (.lst (vs ++ [_])) .lst _ _ .non rfl rfl (fr.app (.cons f1 .nil)) (.leaf .non)⟩
    · cases e
  · cases e
/-! ### o.f = e -/
def putFD (f : Str) (x : D) : List (Str × D) → List (Str × D)
  | [] => [(f, x)]
  | (g, y) :: r => if g = f then (g, x) :: r else (g, y) :: putFD f x r
theorem putFD_rel {f : Str} {d : D} (r : FRep K Z v d) : ∀ {gs : List (Str × V)} {fs : List (Str × D)}, gs.map (·.1) = fs.map (·.1) → FReps K Z (gs.map (·.2)) (fs.map (·.2)) →
    (putF f v gs).map (·.1) = (putFD f d fs).map (·.1) ∧ FReps K Z ((putF f v gs).map (·.2)) ((putFD f d fs).map (·.2))
  | [], [], _, _ => ⟨rfl, .cons r .nil⟩
  | (g, x) :: gs, (g', y) :: fs, e, h => by
    simp only [List.map_cons, List.cons.injEq] at e h
    obtain ⟨rfl, e⟩ := e
    cases h with
    | cons h1 h2 =>
      obtain ⟨i1, i2⟩ := putFD_rel r e h2
      show (((if g = f then (g, v) :: gs else (g, x) :: putF f v gs)).map (·.1) = (if g = f then (g, d) :: fs else (g, y) :: putFD f d fs).map (·.1)) ∧ _
      show _ ∧ FReps K Z (((if g = f then (g, v) :: gs else (g, x) :: putF f v gs)).map (·.2)) ((if g = f then (g, d) :: fs else (g, y) :: putFD f d fs).map (·.2))
      by_cases q : g = f
      · rw [if_pos q, if_pos q]
        refine ⟨by rw [List.map_cons, List.map_cons, e], .cons r h2⟩
      · rw [if_neg q, if_neg q]
        exact ⟨by rw [List.map_cons, List.map_cons, i1], .cons h1 i2⟩
  | [], _ :: _, e, _ => by cases e
  | _ :: _, [], e, _ => by cases e
def ksfld (cs : List Str) (f : Str) (x : Sl) (r : Sl) (ss : List Sl) : So := match r with
  | .al i => match ss[i]? with
    | some (.ow .o1 (.ins c fs)) => match frzL [x] with
      | some [d] => if c ∈ cs ∧ fs.length < 1000 then .nx (ss.set i (.ow .o1 (.ins c (putFD f d fs)))) else .stuck
      | _ => .stuck
    | _ => .stuck
  | _ => .stuck
def fSFld (cs : List Str) (f : Str) (fo fe : FE) : FS := fun ss => (fe ss).so fun p => (fo p.2).so fun q => ksfld cs f p.1 q.1 q.2
theorem rs_fld {cs : List Str} {f : Str} {fo fe : FE} (C : FldOk K cs f) (h : RS K E kp (fSFld cs f fo fe) De σ H) : sFld K (RE K E fo) (RE K E fe) f De σ H := by
  obtain ⟨Z, es, s, hv, k⟩ := h
  refine RE.so (ts := []) (n := fun p => (fo p.2).so fun q => ksfld cs f p.1 q.1 q.2) s hv (by rw [List.append_nil]; exact k) fun rx Z1 H1 es1 y fy s1 hv1 k1 => ?_
  refine RE.so (n := fun q => ksfld cs f rx q.1 q.2) s1 hv1 k1 fun r Z2 H2 es2 x fx s2 hv2 k2 => ?_
  dsimp only at k2
  unfold ksfld at k2
  cases r with
  | un => exact k2.elim
  | fz _ => exact k2.elim
  | ow _ _ => exact k2.elim
  | al i =>
    dsimp only at k2
    obtain ⟨_, u, z, y1, y2, y3⟩ := s2.ok ⟨some x, .al i, fx⟩ (by simp)
    cases y3
    rw [show (ssOf es2)[i]? = some u.s by rw [List.getElem?_map, y1]; rfl] at k2
    split at k2
    · rename_i c fs hu
      have hu' : u.s = .ow .o1 (.ins c fs) := by simpa using hu
      split at k2
      · rename_i d hd
        split at k2
        · rename_i hc
          obtain ⟨Z3, s3, st3⟩ := s2.freeze (Fzd.refl es2) (Fzd.app (Fzd.all [⟨some y, rx, fy⟩]) (Fzd.refl [⟨some x, .al i, fx⟩]))
          have fr := frz_reps (es := es2) (us := [⟨some y, rx, fy⟩]) (vs := [y]) (fun u m => s3.ok u (by simp only [List.mem_append]; exact .inr (.inl m))) hd rfl
          have frd : FRep K Z3 y d := by cases fr with | cons a _ => exact a
          have s4 := s3.bare
          obtain ⟨a, o, vs, o1, o2, o3, o4, o5⟩ := own_node (s4.ok u (List.mem_append_left _ (List.mem_of_getElem? y1))) hu' rfl
          obtain ⟨dx, gs, rfl, g1, rfl⟩ := oview_ins o3
          rw [y2] at o1; cases o1
          have hl : gs.length = fs.length := by have := congrArg List.length g1; simpa using this
          refine ⟨a, _, dx, gs, rfl, o2, (C c hc.1).1, (C c hc.1).2, by rw [hl]; exact hc.2, ?_⟩
          obtain ⟨p1, p2⟩ := putFD_rel (f := f) frd g1 o4
          obtain ⟨es5, s5, st5, v5, e5⟩ := s4.writeAt (o := .ins (He.ga K c) dx (putF f y gs)) (d' := .ins c (putFD f d fs)) (k := .ins (He.ga K c) ((putFD f d fs).map (·.1))) y1 o5 y2 (by show some (Kd.ins _ _, _) = _; rw [p1]) rfl p2
          have st5' : Step Z3 H2 (fpsOf es2) Z3 (upd H2 a (.ins (He.ga K c) dx (putF f y gs))) (fpsOf es5) := by simpa only [List.append_nil] using st5
          have := k2 Z3 _ es5 (st3.tr (st5'.wide fun c m => fps_app.mpr (.inl m))) s5 (by rw [v5, hv2]; exact Kept.refl _) e5
          rw [v5, hv2] at this
          exact this
        · exact k2.elim
      · exact k2.elim
    · exact k2.elim
end
end Mi

/-! M17: the rules as they are put together for a def. -/
namespace Mi
open PySem PySem.Spec PyProof.Rows L2 Rt
section
variable {K : PySem.W.Frag} {E : EW} {E0 : XK} {kp : List Nat} {σ σ1 : L2.St} {Z H Z' H' Z1 H1 : Hp} {F F1 : List Addr} {es ts us es1 pre : List Ent} {v : V} {Q : VK} {De : Ends}
theorem len_body {n np : Nat} {f : FS} {vs : List V} (h : spM K (body n np kp f) vs H Q E0) : vs.length = np := by
  obtain ⟨Z, ts, s, hv, k⟩ := h
  unfold body at k
  by_cases hl : (ssOf ts).length = np
  · have := congrArg List.length hv
    simp at this hl
    omega
  · rw [if_neg hl] at k
    exact k.elim
/-- keywords: what is handed in is plain; every parameter takes one of it -/
def plainS : List Sl → Bool
  | [] => true
  | .fz _ :: r => plainS r
  | .al _ :: r => plainS r
  | _ => false
/-- for each parameter: (0, i) the i-th written value, (1, i) the i-th default, (2, i) the i-th keyword -/
def pick {α : Type} (sp : List (Nat × Nat)) (us ds ws : List α) : List α := sp.flatMap fun p => ((if p.1 = 0 then us else if p.1 = 1 then ds else ws)[p.2]?).toList
theorem pick_map {α β : Type} (f : α → β) (sp : List (Nat × Nat)) (us ds ws : List α) : (pick sp us ds ws).map f = pick sp (us.map f) (ds.map f) (ws.map f) := by
  induction sp with
  | nil => rfl
  | cons p r ih =>
    have e : ∀ l : List α, ((l[p.2]?).toList).map f = ((l.map f)[p.2]?).toList := fun l => by
      rw [List.getElem?_map]; cases l[p.2]? <;> rfl
    show (((if p.1 = 0 then us else if p.1 = 1 then ds else ws)[p.2]?).toList ++ pick r us ds ws).map f = ((if p.1 = 0 then us.map f else if p.1 = 1 then ds.map f else ws.map f)[p.2]?).toList ++ pick r (us.map f) (ds.map f) (ws.map f)
    rw [List.map_append, ih]
    congr 1
    split
    · exact e us
    · split
      · exact e ds
      · exact e ws
theorem pick_mem {α : Type} {sp : List (Nat × Nat)} {us ds ws : List α} {x : α} (h : x ∈ pick sp us ds ws) : x ∈ us ∨ x ∈ ds ∨ x ∈ ws := by
  unfold pick at h
  obtain ⟨p, _, hp⟩ := List.mem_flatMap.mp h
  have go : ∀ l : List α, x ∈ (l[p.2]?).toList → x ∈ l := fun l m => by
    cases q : l[p.2]? with
    | none => rw [q] at m; cases m
    | some y => rw [q] at m; simp at m; subst m; exact List.mem_of_getElem? q
  split at hp
  · exact .inl (go _ hp)
  · split at hp
    · exact .inr (.inl (go _ hp))
    · exact .inr (.inr (go _ hp))
theorem pick_rel {vs ds zs : List V} {us its ws : List Value} (sp : List (Nat × Nat)) (r1 : Vals vs us) (r2 : Vals ds its) (r3 : Vals zs ws) : Vals (pick sp vs ds zs) (pick sp us its ws) := by
  induction sp with
  | nil => exact .nil
  | cons p r ih =>
    refine Vals.append ?_ ih
    dsimp only
    by_cases h0 : p.1 = 0
    · rw [if_pos h0, if_pos h0]; exact pickV r1 _
    · rw [if_neg h0, if_neg h0]
      by_cases h1 : p.1 = 1
      · rw [if_pos h1, if_pos h1]; exact pickV r2 _
      · rw [if_neg h1, if_neg h1]; exact pickV r3 _
theorem plain_c : ∀ dds : List D, plainS (dds.map .fz) = true
  | [] => rfl
  | _ :: r => plain_c r
theorem plain_fp {l : List Ent} (s : ∀ e ∈ l, EntOk K Z H es e) (h : plainS (ssOf l) = true) : ∀ e ∈ l, e.fp = [] := by
  induction l with
  | nil => intro _ m; cases m
  | cons u r ih =>
    have h' : plainS (u.s :: ssOf r) = true := h
    intro e m
    have ok := s u List.mem_cons_self
    unfold EntOk at ok
    have hr : plainS (ssOf r) = true ∧ u.fp = [] := by
      cases hs : u.s with
      | un => rw [hs] at h'; cases h'
      | ow _ _ => rw [hs] at h'; cases h'
      | fz d => rw [hs] at h' ok; obtain ⟨_, _, _, q⟩ := ok; exact ⟨h', q⟩
      | al i => rw [hs] at h' ok; exact ⟨h', ok.1⟩
    rcases List.mem_cons.mp m with q | q
    · subst q; exact hr.2
    · exact ih (fun e m => s e (List.mem_cons_of_mem _ m)) hr.1 e q
theorem fps_nil {l : List Ent} (h : ∀ e ∈ l, e.fp = []) : fpsOf l = [] := by
  rw [List.flatMap_eq_nil_iff]; exact h
def kcallK (m : Fm) (n k : Nat) (sp : List (Nat × Nat)) (dds : List D) (rs ws ss : List Sl) : Ro (Sl × List Sl) := if rs.length = n ∧ ws.length = k ∧ plainS rs = true ∧ plainS ws = true then kcall m (pick sp rs (dds.map .fz) ws) ss else .stuck
def fCallN (m : Fm) (n k : Nat) (sp : List (Nat × Nat)) (dds : List D) (ft fk : FA) : FE := fun ss => (ft ss).bind fun p => (fk p.2).bind fun q => kcallK m n k sp dds p.1 q.1 q.2
theorem callK_sp {m : Fm} {n k : Nat} {sp : List (Nat × Nat)} {dvs : List V} {dds : List D} {ws : List Ent} {vs zs : List V} (hd : Paired (Leaf K) dvs dds) (s : Sat K Z H es (us ++ ws)) (hv : vsOf es = σ) (hu : vsOf us = vs.map some) (hw : vsOf ws = zs.map some)
    (kk : KQ K E σ Z H (fpsOf (es ++ (us ++ ws))) (kcallK m n k sp dds (ssOf us) (ssOf ws) (ssOf es)) Q) : vs.length = n ∧ zs.length = k ∧ spM K m (pick sp vs dvs zs) H Q (E σ) := by
  unfold kcallK at kk
  split at kk
  · rename_i hc
    obtain ⟨h1, h2, h3, h4⟩ := hc
    have l1 : vs.length = n := by have := congrArg List.length hu; simp at this h1; omega
    have l2 : zs.length = k := by have := congrArg List.length hw; simp at this h2; omega
    refine ⟨l1, l2, ?_⟩
    have fu := plain_fp (es := es) (l := us) (fun e m => s.ok e (by simp only [List.mem_append]; exact .inr (.inl m))) h3
    have fw := plain_fp (es := es) (l := ws) (fun e m => s.ok e (by simp only [List.mem_append]; exact .inr (.inr m))) h4
    obtain ⟨cs, c1, c2, c3, c4⟩ := (s.bare).consts (us := []) hd
    simp only [List.nil_append, List.append_nil] at c1 c4
    have fc : ∀ e ∈ cs, e.fp = [] := by
      refine plain_fp (es := es) (l := cs) (fun e m => c1.ok e (List.mem_append_right _ m)) ?_
      rw [c3]
      exact plain_c dds
    have fp : ∀ e ∈ pick sp us cs ws, e.fp = [] := fun e m => by
      rcases pick_mem m with q | q | q
      · exact fu e q
      · exact fc e q
      · exact fw e q
    have ef : fpsOf (es ++ pick sp us cs ws) = fpsOf (es ++ (us ++ ws)) := by
      have e1 := fps_nil fp
      have e2 := fps_nil fu
      have e3 := fps_nil fw
      unfold fpsOf at e1 e2 e3 ⊢
      rw [List.flatMap_append, List.flatMap_append, List.flatMap_append, e1, e2, e3]
      rfl
    have s2 : Sat K Z H es (pick sp us cs ws) := by
      refine ⟨s.sub, by rw [ef]; exact s.nd, fun a m => s.zf a (by rw [← ef]; exact m), fun e m => ?_⟩
      rcases List.mem_append.mp m with q | q
      · exact s.ok e (List.mem_append_left _ q)
      · rcases pick_mem q with q | q | q
        · exact s.ok e (by simp only [List.mem_append]; exact .inr (.inl q))
        · exact c1.ok e (List.mem_append_right _ q)
        · exact s.ok e (by simp only [List.mem_append]; exact .inr (.inr q))
    refine call_sp s2 hv ?_ ?_
    · show (pick sp us cs ws).map Ent.v = _
      rw [pick_map, pick_map]
      show pick sp (vsOf us) (vsOf cs) (vsOf ws) = _
      rw [hu, c2, hw]
    · rw [ef]
      have : ssOf (pick sp us cs ws) = pick sp (ssOf us) (dds.map .fz) (ssOf ws) := by
        show (pick sp us cs ws).map Ent.s = _
        rw [pick_map]
        show pick sp (ssOf us) (ssOf cs) (ssOf ws) = _
        rw [c3]
      rw [this]
      exact kk
  · exact kk.elim
theorem re_callN {m : Fm} {n k : Nat} {sp : List (Nat × Nat)} {dvs : List V} {dds : List D} {ft fk : FA} (hd : Paired (Leaf K) dvs dds) (h : RE K (fun _ => E0) (fCallN m n k sp dds ft fk) σ H Q) :
    tCallN n k (spM K m) (fun vs zs => pick sp vs dvs zs) E0 (RA K (fun _ => E0) ft) (RA K (fun _ => E0) fk) σ H Q := by
  obtain ⟨Z, es, s, hv, kk⟩ := h
  refine RA.next (ts := []) (n := fun p => (fk p.2).bind fun q => kcallK m n k sp dds p.1 q.1 q.2) s hv (by rw [List.append_nil]; exact kk) fun Z1 H1 es1 us vs e1 s1 hv1 k1 => ?_
  refine RA.next (n := fun q => kcallK m n k sp dds (ssOf us) q.1 q.2) s1 hv1 k1 fun Z2 H2 es2 ws zs e2 s2 hv2 k2 => ?_
  rw [List.nil_append] at s2 k2
  exact callK_sp hd s2 hv2 e1 e2 k2
/-- the script, as the law is handed it -/
theorem script_sat {a : Addr} {ns : List Int} (ho : Only H) (h : SqL K H a (ns.map V.int)) : ∃ Z, Sat K Z H [] [⟨some (.ref a), .fz (.scr ns), []⟩] := by
  rcases h with (h | ⟨o, h⟩) | h
  · rcases ho a with z | ⟨o, xs, z⟩ <;> rw [h] at z <;> cases z
  · refine ⟨fun b => if b = a then some (.frz o (.lst (ns.map V.int))) else none, ⟨fun b u e => ?_, by simp, fun b m => by simp at m, fun e m => ?_⟩⟩
    · by_cases q : b = a
      · subst q; simp at e; subst e; exact .inl h
      · simp [q] at e
    · simp at m
      subst m
      exact ⟨_, rfl, .node (o := .frz o (.lst (ns.map V.int))) (k := .scr) (vs := ns.map V.int) (ds := ns.map D.int) (by simp) rfl rfl (FReps.ofInts ns), rfl⟩
  · refine ⟨fun _ => none, ⟨fun b u e => (by cases e), by simp, fun b m => by simp at m, fun e m => ?_⟩⟩
    simp at m
    subst m
    exact ⟨_, rfl, .wr (k := .scr) (vs := ns.map V.int) (ds := ns.map D.int) (.inr h) rfl (FReps.ofInts ns), rfl⟩
theorem law_sp {m : Fm} {a : Addr} {ns : List Int} (ho : Only H) (h : SqL K H a (ns.map V.int)) (hm : ∃ as, m [.fz (.scr ns)] = .ret (.fz (.bl true)) as) : spM K m [.ref a] H (fun v _ => v = .bl true) fun _ _ _ => False := by
  obtain ⟨Z, s⟩ := script_sat ho h
  obtain ⟨as, e⟩ := hm
  refine ⟨Z, _, s, rfl, ?_⟩
  show match m [.fz (.scr ns)] with | .ret r as' => _ | .exc c fs as' => _ | .stuck => _
  rw [e]
  intro Z' H' ts' v fv st s' vk e'
  obtain ⟨x, x1, x2, _⟩ := s'.ok ⟨some v, .fz (.bl true), fv⟩ (by simp)
  cases x1
  cases x2.leaf_of (d := .bl true) rfl
  rfl
end
section
variable {X : Cx} {E : EW} {E0 : XK} {kp : List Nat} {e a b c o : Expr} {es' : List Expr} {pos apos cpos p : Pos} {fa fb fz fo : FE} {ft fk : FA} {f g : FS} {CX : CXT} {k : Nat} {fA : Addr} {fd : FuncData} {ps : List Str} {m : Fm} {dds : List D} {dvs : List V} {ds : List Value} {x : Str}
theorem e_var (i : Nat) (h : PE X e (tVar i)) : PE X e (RE X.K E (fvar i)) := pe_mono h fun _ _ _ q => re_var q
theorem e_c {v : V} {d : D} (l : Leaf X.K v d) (h : PE X e (tC v)) : PE X e (RE X.K E (fc d)) := pe_mono h fun _ _ _ q => re_c l q
theorem e_frz (h : PE X e (RE X.K E fa)) : PE X e (RE X.K E (ffrz fa)) := pe_mono h fun _ _ _ q => re_frz q
theorem e_op {op : Operator} {r : R2} {q : Tg → D → Tg → D → Option Sl} (ho : OpR X (binaryOp op) r) (hq : Op2 X.K r q) (ha : PE X a (RE X.K E fa)) (hb : PE X b (RE X.K E fb)) : PE X (.BinOp a op b pos) (RE X.K E (f2 q fa fb)) := pe_mono (pe_op ho ha hb) fun _ _ _ z => re_op hq z
theorem e_cmp {op : CmpOp} {r : R2} {q : Tg → D → Tg → D → Option Sl} (ho : OpR X (compareOp op) r) (hq : Op2 X.K r q) (ha : PE X a (RE X.K E fa)) (hb : PE X b (RE X.K E fb)) (hm : behindInMarks op b = false) : PE X (.Compare a [op] [b] pos) (RE X.K E (f2 q fa fb)) := pe_mono (pe_cmpR ho ha hb hm) fun _ _ _ z => re_op hq z
theorem t_cmp {op : CmpOp} {r : R2} {q : Tg → D → Tg → D → Option Sl} (ho : OpR X (compareOp op) r) (hq : Op2 X.K r q) (ha : PE X a (RE X.K E fa)) (hb : PE X b (RE X.K E fb)) (hm : behindInMarks op b = false) : PT X (.Compare a [op] [b] pos) (RT X.K E (fTest (f2 q fa fb))) :=
  pt_mono (pt_cmpR ho ha hb hm) fun _ _ _ z => re_op hq (rt_test z)
end
end Mi

/-! M18: from the hand layer's readings to functions. -/
namespace Mi
open PySem PySem.Spec PyProof.Rows L2 Rt
section
variable {X : Cx} {E : EW} {E0 : XK} {kp : List Nat} {e a b c o : Expr} {es' : List Expr} {fa fb fc' fo : FE} {ft fk : FA} {f g : FS} {ta tb : FT} {m : Fm} {dds : List D} {dvs : List V}
theorem po_mono {lo : Option Expr} {t t' : TO} (p : PO X lo t) (h : ∀ σ H Q, t' σ H Q → t σ H Q) : PO X lo t' := ⟨fun pins s σ H Q I q => p.run pins s σ H Q I (h σ H Q q)⟩
theorem pi_mono {tg it : Expr} {t t' : TI} (p : PI X tg it t) (h : ∀ σ H Q, t' σ H Q → t σ H Q) : PI X tg it t' := ⟨fun pins s σ H Q I q => p.run pins s σ H Q I (h σ H Q q)⟩
theorem pg_mono {tg : Expr} {t t' : TG} (p : PG X tg t) (h : ∀ v σ H Q, t' v σ H Q → t v σ H Q) : PG X tg t' := ⟨fun pins s σ H v u Q I r q => p.run pins s σ H v u Q I r (h v σ H Q q)⟩
theorem pgs_mono {tg : List Expr} {t t' : TGs} (p : PGs X tg t) (h : ∀ v σ H Q, t' v σ H Q → t v σ H Q) : PGs X tg t' := ⟨fun pins s σ H v u Q I r q => p.run pins s σ H v u Q I r (h v σ H Q q)⟩
theorem pw_mono {t t' : TT} (p : PW X e t) (h : ∀ σ H Q, t' σ H Q → t σ H Q) : PW X e t' := ⟨fun w pins s σ H Q I q => p.run w pins s σ H Q I (h σ H Q q)⟩
theorem cv_var {i : Nat} (h : PE X e (tVar i)) : PE X e (RE X.K E (fvar i)) := pe_mono h fun _ _ _ q => re_var q
theorem cv_c {v : V} {d : D} (l : Leaf X.K v d) (h : PE X e (tC v)) : PE X e (RE X.K E (fc d)) := pe_mono h fun _ _ _ q => re_c l q
theorem cv_frz (h : PE X e (RE X.K E fa)) : PE X e (RE X.K E (ffrz fa)) := pe_mono h fun _ _ _ q => re_frz q
theorem cv_un {r : V → Hp → VK → Prop} {q : Tg → D → Option Sl} (hq : Op1 X.K r q) (h : PE X e (tUn r (RE X.K E fa))) : PE X e (RE X.K E (f1 q fa)) := pe_mono h fun _ _ _ z => re_un hq z
theorem cv_notT (h : PE X e (tNotT X.K (RE X.K E fa))) : PE X e (RE X.K E (f1 opNot fa)) := pe_mono h fun _ _ _ z => re_notT z
theorem cv_op {r : R2} {q : Tg → D → Tg → D → Option Sl} (hq : Op2 X.K r q) (h : PE X e (tOp r (RE X.K E fa) (RE X.K E fb))) : PE X e (RE X.K E (f2 q fa fb)) := pe_mono h fun _ _ _ z => re_op hq z
theorem ct_op {r : R2} {q : Tg → D → Tg → D → Option Sl} (hq : Op2 X.K r q) (h : PT X e (tTest (tOp r (RE X.K E fa) (RE X.K E fb)))) : PT X e (RT X.K E (fTest (f2 q fa fb))) := pt_mono h fun _ _ _ z => re_op hq (rt_test z)
theorem cv_chain {r r' : R2} {q q' : Tg → D → Tg → D → Option Sl} (h1 : Op2B X.K r q) (h2 : Op2 X.K r' q') (h : PE X e (tChain r r' (RE X.K E fa) (RE X.K E fb) (RE X.K E fc'))) : PE X e (RE X.K E (fChain q q' fa fb fc')) := pe_mono h fun _ _ _ z => re_chain h1 h2 z
theorem ct_chain {r r' : R2} {q q' : Tg → D → Tg → D → Option Sl} (h1 : Op2B X.K r q) (h2 : Op2 X.K r' q') (h : PT X e (tTest (tChain r r' (RE X.K E fa) (RE X.K E fb) (RE X.K E fc')))) : PT X e (RT X.K E (fTest (fChain q q' fa fb fc'))) := pt_mono h fun _ _ _ z => re_chain h1 h2 (rt_test z)
theorem cv_cb {r : List V → Hp → VK → Prop} {q : List (Tg × D) → Option Sl} (hq : OpN X.K r q) (h : PE X e (tCB r (RA X.K E ft))) : PE X e (RE X.K E (fN q ft)) := pe_mono h fun _ _ _ z => re_cb hq z
theorem cv_sl {fl fh : FO} (h : PE X e (L2.tSl (rSlW X.K) (RE X.K E fa) (RO X.K E fl) (RO X.K E fh))) : PE X e (RE X.K E (fSl fa fl fh)) := pe_mono h fun _ _ _ z => re_sl z
theorem co_no {lo : Option Expr} (h : PO X lo tNoPart) : PO X lo (RO X.K E fNoPart) := po_mono h fun _ _ _ z => ro_no z
theorem co_part {lo : Option Expr} (h : PO X lo (tPart (RE X.K E fa))) : PO X lo (RO X.K E (fPart fa)) := po_mono h fun _ _ _ z => ro_part z
theorem cv_fld {cs : List Str} {n : Str} (C : FldOk X.K cs n) (h : PE X e (tFld X.K (RE X.K E fa) n)) : PE X e (RE X.K E (f1 (opFld cs n) fa)) := pe_mono h fun _ _ _ z => re_fld C z
theorem cv_tup (h : PE X e (tTup (RA X.K E ft))) : PE X e (RE X.K E (fTup ft)) := pe_mono h fun _ _ _ z => re_tup z
theorem cv_lst (h : PE X e (tLst (RA X.K E ft))) : PE X e (RE X.K E (fLst ft)) := pe_mono h fun _ _ _ z => re_lst z
theorem cv_disp {ps : List (FE × FE)} (h : PE X e (tDisp (ps.map fun p => (RE X.K E p.1, RE X.K E p.2)))) : PE X e (RE X.K E (fDisp ps)) := pe_mono h fun _ _ _ z => re_disp z
theorem cv_if (h : PE X e (tIf (RT X.K E ta) (RE X.K E fa) (RE X.K E fb))) : PE X e (RE X.K E (fIf ta fa fb)) := pe_mono h fun _ _ _ z => re_if z
theorem cv_call (hd : Paired (Leaf X.K) dvs dds) (h : PE X e (tCall (spM X.K m) dvs E0 (RA X.K (fun _ => E0) ft))) : PE X e (RE X.K (fun _ => E0) (fCall m dds ft)) := pe_mono h fun _ _ _ z => re_call hd z
theorem cv_meth {n k : Str} (hd : Paired (Leaf X.K) dvs dds) (h : PE X e (tMeth (He.ga X.K n) k (spM X.K m) dvs E0 (RE X.K (fun _ => E0) fo) (RA X.K (fun _ => E0) ft))) : PE X e (RE X.K (fun _ => E0) (fMeth n k m dds fo ft)) := pe_mono h fun _ _ _ z => re_meth hd z
theorem cv_make {n : Str} {tg : Tg} (ht : tg ≠ .fz) (hd : Paired (Leaf X.K) dvs dds) (h : PE X e (tMake (He.ga X.K n) (spM X.K m) dvs E0 (RA X.K (fun _ => E0) ft))) : PE X e (RE X.K (fun _ => E0) (fMake n tg m dds ft)) := pe_mono h fun _ _ _ z => re_make ht hd z
theorem cv_callN {n k : Nat} {sp : List (Nat × Nat)} (hd : Paired (Leaf X.K) dvs dds) (h : PE X e (tCallN n k (spM X.K m) (fun vs zs => pick sp vs dvs zs) E0 (RA X.K (fun _ => E0) ft) (RA X.K (fun _ => E0) fk))) : PE X e (RE X.K (fun _ => E0) (fCallN m n k sp dds ft fk)) := pe_mono h fun _ _ _ z => re_callN hd z
theorem cv_bm {T : String} {r : V → List V → Hp → VK → Prop} {q : Tg → D → List (Tg × D) → Option Sl} (hq : OpM X.K r q) (h : PE X e (tBM X.K T r (RE X.K E fo) (RA X.K E ft))) : PE X e (RE X.K E (fBM T q fo ft)) := pe_mono h fun _ _ _ z => re_bm hq z
theorem cv_mu {T : String} {r : V → List V → Hp → VK → Prop} {q : D → List D → Option (D × D)} (hq : OpU X.K r q) (hn : ∀ d xs p, q d xs = some p → nodeD d = true) (h : PE X e (tBM X.K T r (RE X.K E fo) (RA X.K E ft))) : PE X e (RE X.K E (fMU T q fo ft)) := pe_mono h fun _ _ _ z => re_mu hq hn z
theorem ca_nil {es : List Expr} (h : PA X es tNil) : PA X es (RA X.K E fnil) := pa_mono h fun _ _ _ z => ra_nil z
theorem ca_cons {es : List Expr} (h : PA X es (tCons (RE X.K E fa) (RA X.K E ft))) : PA X es (RA X.K E (fcons fa ft)) := pa_mono h fun _ _ _ z => ra_cons z
theorem pk_mono {es : List Keyword} {t t' : TA} (p : PK X es t) (h : ∀ σ H Q, t' σ H Q → t σ H Q) : PK X es t' := ⟨fun pos pins s σ H Q I q => p.run pos pins s σ H Q I (h σ H Q q)⟩
theorem ck_nil {es : List Keyword} (h : PK X es tNil) : PK X es (RA X.K E fnil) := pk_mono h fun _ _ _ z => ra_nil z
theorem ck_cons {es : List Keyword} (h : PK X es (tCons (RE X.K E fa) (RA X.K E ft))) : PK X es (RA X.K E (fcons fa ft)) := pk_mono h fun _ _ _ z => ra_cons z
theorem ct_trv (h : PT X e (tTrv X.K (RE X.K E fa))) : PT X e (RT X.K E (fTrv fa)) := pt_mono h fun _ _ _ z => rt_trv z
theorem cw_and (h : PW X e (tAnd (RT X.K E ta) (RT X.K E tb))) : PW X e (RT X.K E (fAnd ta tb)) := pw_mono h fun _ _ _ z => rt_and z
theorem cw_or (h : PW X e (tOr (RT X.K E ta) (RT X.K E tb))) : PW X e (RT X.K E (fOr ta tb)) := pw_mono h fun _ _ _ z => rt_or z
theorem ct_not (h : PT X e (tNot (RT X.K E ta))) : PT X e (RT X.K E (fNot ta)) := pt_mono h fun _ _ _ z => rt_not z
theorem cts_yes : PTs X [] (RT X.K E fYes) := ⟨fun pins s σ H Q I q => pts_nil.run pins s σ H Q I (rt_yes q)⟩
theorem ci_seq {tg it : Expr} (h : PI X tg it (iSeq X.K (RE X.K E fa))) : PI X tg it (RI X.K E (iSeqF fa)) := pi_mono h fun _ _ _ z => ri_seq z
theorem ci_rng1 {tg it : Expr} (h : PI X tg it (iRng1 (RA X.K E (fcons fa fnil)))) : PI X tg it (RI X.K E (iRngF (fcons fa fnil))) := pi_mono h fun _ _ _ z => ri_rng1 z
theorem ci_rng2 {tg it : Expr} (h : PI X tg it (iRng2 (RA X.K E (fcons fa (fcons fb fnil))))) : PI X tg it (RI X.K E (iRngF (fcons fa (fcons fb fnil)))) := pi_mono h fun _ _ _ z => ri_rng2 z
theorem cg_name {tg : Expr} {i : Nat} (hk : i ∉ kp) (h : PG X tg (gName i)) : PG X tg (RG X.K E kp (gN i)) := pg_mono h fun _ _ _ _ z => rg_name hk z
theorem cgs_nil {tg : List Expr} (h : PGs X tg gNil) : PGs X tg (RGs X.K E kp []) := pgs_mono h fun _ _ _ _ z => rgs_nil z
theorem cgs_cons {tg : List Expr} {g : FG} {gs : List FG} (h : PGs X tg (gCons (RG X.K E kp g) (RGs X.K E kp gs))) : PGs X tg (RGs X.K E kp (g :: gs)) := pgs_mono h fun _ _ _ _ z => rgs_cons z
theorem cg_tup {tg : Expr} {n : Nat} {gs : List FG} (h : PG X tg (gTup X.K n (RGs X.K E kp gs))) : PG X tg (RG X.K E kp (gT n gs)) := pg_mono h fun _ _ _ _ z => rg_tup z
theorem cg_sub {tg : Expr} (h : PG X tg (gSub (RE X.K E fo) (RE X.K E fk') rSetU)) : PG X tg (RG X.K E kp (gSubF fo fk')) := pg_mono h fun _ _ _ _ z => rg_sub z
theorem cv_comp {fi : FI} {g : FG} {n : Nat} {vs : List Nat} (ho : ∀ r ss, OnOnly (g r ss)) (h : PE X e (tLc (RI X.K E fi) (RG X.K noE (kpC n vs) g) (RT X.K noE ta) (RE X.K noE fa) vs)) : PE X e (RE X.K E (fComp fi g ta fa n vs)) := pe_mono h fun _ _ _ z => re_comp ho z
variable {st : Stmt} {sts : List Stmt}
theorem cs_setcomp {fi : FI} {g : FG} {n i : Nat} {vs : List Nat} (ho : ∀ r ss, OnOnly (g r ss)) (hk : i ∉ kp) (h : PS X st (tAsg (tLc (RI X.K E fi) (RG X.K noE (kpC n vs) g) (RT X.K noE ta) (RE X.K noE fa) vs) (gName i))) : PS X st (RS X.K E kp (fSet i (fComp fi g ta fa n vs))) :=
  ps_mono h fun _ _ _ z => re_comp ho (rs_set hk z)
/-- .. and what is made is frozen -/
theorem cs_setcompF {fi : FI} {g : FG} {n i : Nat} {vs : List Nat} (ho : ∀ r ss, OnOnly (g r ss)) (hk : i ∉ kp) (h : PS X st (tAsg (tLc (RI X.K E fi) (RG X.K noE (kpC n vs) g) (RT X.K noE ta) (RE X.K noE fa) vs) (gName i))) : PS X st (RS X.K E kp (fSet i (ffrz (fComp fi g ta fa n vs)))) :=
  ps_mono h fun _ _ _ z => re_comp ho (re_frz (rs_set hk z))
theorem cs_nil : PSs X [] (RS X.K E kp fNext) := pss_mono pss_nil fun _ _ _ z => rs_next z
theorem cs_seq {f g : FS} (h : PSs X sts (tSeq (RS X.K E kp f) (RS X.K E kp g))) : PSs X sts (RS X.K E kp (fSeq f g)) := pss_mono h fun _ _ _ z => rs_seq z
theorem cs_next (h : PS X st tNext) : PS X st (RS X.K E kp fNext) := ps_mono h fun _ _ _ z => rs_next z
theorem cs_break (h : PS X st tBreak) : PS X st (RS X.K E kp fBreak) := ps_mono h fun _ _ _ z => rs_break z
theorem cs_cont (h : PS X st tCont) : PS X st (RS X.K E kp fCont) := ps_mono h fun _ _ _ z => rs_cont z
theorem cs_never (h : PS X st tNever) : PS X st (RS X.K E kp fNever) := ps_mono h fun _ _ _ z => rs_never z
theorem cs_drop (h : PS X st (tDrop (RE X.K E fa))) : PS X st (RS X.K E kp (fDrop fa)) := ps_mono h fun _ _ _ z => rs_drop z
theorem cs_ret (h : PS X st (tRet (RE X.K E fa))) : PS X st (RS X.K E kp (fRet fa)) := ps_mono h fun _ _ _ z => rs_ret z
theorem cs_retN (h : PS X st tRetN) : PS X st (RS X.K E kp fRetN) := ps_mono h fun _ _ _ z => rs_retN z
theorem cs_if (h : PS X st (tIfS (RT X.K E ta) (RS X.K E kp f) (RS X.K E kp g))) : PS X st (RS X.K E kp (fIfS ta f g)) := ps_mono h fun _ _ _ z => rs_if z
theorem cs_set {i : Nat} (hk : i ∉ kp) (h : PS X st (tAsg (RE X.K E fa) (gName i))) : PS X st (RS X.K E kp (fSet i fa)) := ps_mono h fun _ _ _ z => rs_set hk z
theorem cs_asg {g : FG} (ho : ∀ r ss, OnOnly (g r ss)) (h : PS X st (tAsg (RE X.K E fa) (RG X.K E kp g))) : PS X st (RS X.K E kp (fAsg g fa)) := ps_mono h fun _ _ _ z => rs_asg ho z
theorem cs_par {i j : Nat} (hi : i ∉ kp) (hj : j ∉ kp) (h : PS X st (tPar i j (RA X.K E ft))) : PS X st (RS X.K E kp (fPar2 i j ft)) := ps_mono h fun _ _ _ z => rs_par hi hj z
theorem cs_aug {i : Nat} {r : TIp} {q : Tg → D → Tg → D → Option Sl} (hq : Ip2 X.K r q) (hk : i ∉ kp) (h : PS X st (tAug i (RE X.K E fa) r)) : PS X st (RS X.K E kp (fAug q i fa)) := ps_mono h fun _ _ _ z => rs_aug hq hk z
theorem cs_while (h : PS X st (tWhile (RT X.K E ta) (RS X.K E kp f))) : PS X st (RS X.K E kp (fWhile ta f)) := ps_mono h fun _ _ _ z => rs_while z
theorem cs_for {fi : FI} {g : FG} (ho : ∀ r ss, OnOnly (g r ss)) (h : PS X st (tFor (RI X.K E fi) (RG X.K E kp g) (RS X.K E kp f))) : PS X st (RS X.K E kp (fFor fi g f)) := ps_mono h fun _ _ _ z => rs_for ho z
theorem cs_fld {cs : List Str} {n : Str} (C : FldOk X.K cs n) (h : PS X st (sFld X.K (RE X.K E fo) (RE X.K E fa) n)) : PS X st (RS X.K E kp (fSFld cs n fo fa)) := ps_mono h fun _ _ _ z => rs_fld C z
end
theorem on_N (i : Nat) (r : Sl) (ss : List Sl) : OnOnly (gN i r ss) := on_set i r ss
theorem on_T1 {n : Nat} {gs : List FG} (h : ∀ g ∈ gs, ∀ r ss, OnOnly (g r ss)) : ∀ r ss, OnOnly (gT n gs r ss) := on_gT h
theorem on_nil : ∀ g ∈ ([] : List FG), ∀ r ss, OnOnly (g r ss) := fun _ h => by cases h
theorem on_cons {g : FG} {gs : List FG} (h : ∀ r ss, OnOnly (g r ss)) (t : ∀ g ∈ gs, ∀ r ss, OnOnly (g r ss)) : ∀ x ∈ g :: gs, ∀ r ss, OnOnly (x r ss) := fun x m => by
  rcases List.mem_cons.mp m with rfl | m
  · exact h
  · exact t x m
end Mi

/-! M19: values by truth, calls without arguments, classes' facts. -/
namespace Mi
open PySem PySem.Spec PyProof.Rows L2 Rt
section
variable {K : PySem.W.Frag} {E : EW} {E0 : XK} {kp : List Nat} {σ σ1 : L2.St} {Z H Z' H' Z1 H1 : Hp} {es ts us es1 : List Ent} {v : V} {Q : VK}
def ktru (a : Sl) (ss : List Sl) : Option Bool := (a.val ss).bind fun x => truD x.2
/-- a and b, by truth; a is told as it is -/
def fAndV (fa fb : FE) : FE := fun ss => (fa ss).bind fun p => match ktru p.1 p.2 with
  | some true => fb p.2
  | some false => .ok p
  | none => .stuck
def fOrV (fa fb : FE) : FE := fun ss => (fa ss).bind fun p => match ktru p.1 p.2 with
  | some true => .ok p
  | some false => fb p.2
  | none => .stuck
theorem re_andT {fa fb : FE} (h : RE K E (fAndV fa fb) σ H Q) : tAndT K (RE K E fa) (RE K E fb) σ H Q := by
  obtain ⟨Z, es, s, hv, k⟩ := h
  refine RE.next (ts := []) (n := fun p => match ktru p.1 p.2 with
    | some true => fb p.2
    | some false => .ok p
    | none => .stuck) s hv (by rw [List.append_nil]; exact k) fun a Z1 H1 es1 v fp s1 hv1 k1 => ?_
  dsimp only at k1
  cases ht : ktru a (ssOf es1) with
  | none => rw [ht] at k1; exact k1.elim
  | some b =>
    rw [ht] at k1
    obtain ⟨⟨t, d⟩, h1, h2⟩ := Option.bind_eq_some_iff.mp ht
    obtain ⟨f, rp, _⟩ := s1.val (e := ⟨some v, a, fp⟩) (by simp) rfl h1
    refine ⟨b, tru_of s1.sub rp h2, ?_⟩
    cases b with
    | true =>
      rw [if_pos rfl]
      exact RE.of s1.bare hv1 (Kon.from (Step.refl fun c m => fps_app.mpr (.inl m)) k1)
    | false =>
      rw [if_neg (by decide)]
      exact konAt (Step.refl fun a m => m) s1 hv1 rfl k1 rfl
theorem re_orT {fa fb : FE} (h : RE K E (fOrV fa fb) σ H Q) : tOrT K (RE K E fa) (RE K E fb) σ H Q := by
  obtain ⟨Z, es, s, hv, k⟩ := h
  refine RE.next (ts := []) (n := fun p => match ktru p.1 p.2 with
    | some true => .ok p
    | some false => fb p.2
    | none => .stuck) s hv (by rw [List.append_nil]; exact k) fun a Z1 H1 es1 v fp s1 hv1 k1 => ?_
  dsimp only at k1
  cases ht : ktru a (ssOf es1) with
  | none => rw [ht] at k1; exact k1.elim
  | some b =>
    rw [ht] at k1
    obtain ⟨⟨t, d⟩, h1, h2⟩ := Option.bind_eq_some_iff.mp ht
    obtain ⟨f, rp, _⟩ := s1.val (e := ⟨some v, a, fp⟩) (by simp) rfl h1
    refine ⟨b, tru_of s1.sub rp h2, ?_⟩
    cases b with
    | false =>
      rw [if_neg (by decide)]
      exact RE.of s1.bare hv1 (Kon.from (Step.refl fun c m => fps_app.mpr (.inl m)) k1)
    | true =>
      rw [if_pos rfl]
      exact konAt (Step.refl fun a m => m) s1 hv1 rfl k1 rfl
def fDNew : FE := fun ss => .ok (.ow .o1 (.dk []), ss)
theorem re_dnew (h : RE K E fDNew σ H Q) : tDNewK σ H Q := by
  obtain ⟨Z, es, s, hv, k⟩ := h
  intro p np
  exact fin_new (ts := []) s hv (by rw [List.append_nil]; exact k) (New.o1 s.sub np rfl rfl .nil)
/-- without arguments -/
def fCall0 (m : Fm) (dds : List D) : FE := fCall m dds fnil
def fMeth0 (c name : Str) (m : Fm) (dds : List D) (fo : FE) : FE := fMeth c name m dds fo fnil
def isiChk (K : PySem.W.Frag) (cls : List Str) : Bool := cls.all fun c => (Bt.all.all fun b => decide (PySem.W.kitOne K (.type b.name) (.ref (He.ga K c)) = some false) && (decide (b = .non) || decide (PySem.W.kitOne K (.ref (He.ga K c)) (.type b.name) = some false))) &&
  cls.all fun e => decide (PySem.W.kitOne K (.ref (He.ga K c)) (.ref (He.ga K e)) = some (decide (c = e)))
theorem clsOk_of {cls : List Str} (h : ∀ c ∈ cls, ∀ (H : Hp) (a dx : Addr) (fs : List (Str × V)), H a = some (.ins (He.ga K c) dx fs) → TyX K H (.ref a) (.ref (He.ga K c))) (hc : isiChk K cls = true) : ClsOk K cls := by
  unfold isiChk at hc
  rw [List.all_eq_true] at hc
  refine ⟨h, fun c m b mb => ?_, fun c m b mb nb => ?_, fun c m e me => ?_⟩
  · have := hc c m
    rw [Bool.and_eq_true] at this
    have := List.all_eq_true.mp this.1 b mb
    rw [Bool.and_eq_true] at this
    exact of_decide_eq_true this.1
  · have := hc c m
    rw [Bool.and_eq_true] at this
    have := List.all_eq_true.mp this.1 b mb
    rw [Bool.and_eq_true, Bool.or_eq_true] at this
    rcases this.2 with q | q
    · exact absurd (of_decide_eq_true q) nb
    · exact of_decide_eq_true q
  · have := hc c m
    rw [Bool.and_eq_true] at this
    exact of_decide_eq_true (List.all_eq_true.mp this.2 e me)
end
section
variable {X : Cx} {E : EW} {E0 : XK} {e : Expr} {fa fb fo : FE} {ft fk : FA} {m : Fm} {dds : List D} {dvs : List V}
theorem cv_andT (h : PE X e (tAndT X.K (RE X.K E fa) (RE X.K E fb))) : PE X e (RE X.K E (fAndV fa fb)) := pe_mono h fun _ _ _ z => re_andT z
theorem cv_orT (h : PE X e (tOrT X.K (RE X.K E fa) (RE X.K E fb))) : PE X e (RE X.K E (fOrV fa fb)) := pe_mono h fun _ _ _ z => re_orT z
theorem cv_dnew (h : PE X e tDNewK) : PE X e (RE X.K E fDNew) := pe_mono h fun _ _ _ z => re_dnew z
theorem cv_call0 (hd : Paired (Leaf X.K) dvs dds) (h : PE X e (tCall (spM X.K m) dvs E0 tNil)) : PE X e (RE X.K (fun _ => E0) (fCall0 m dds)) := pe_mono h fun _ _ _ z => ra_nil (re_call hd z)
theorem cv_meth0 {n k : Str} (hd : Paired (Leaf X.K) dvs dds) (h : PE X e (tMeth (He.ga X.K n) k (spM X.K m) dvs E0 (RE X.K (fun _ => E0) fo) tNil)) : PE X e (RE X.K (fun _ => E0) (fMeth0 n k m dds fo)) := pe_mono h fun σ H Q z => by
  obtain ⟨Z, es, s, hv, k⟩ := re_meth hd z
  refine ⟨Z, es, s, hv, k.mono fun a Z' H' es' us e q v hv => ?_⟩
  obtain ⟨a, dx, fs, h1, h2, h3, h4⟩ := q v hv
  exact ⟨a, dx, fs, h1, h2, h3, ra_nil h4⟩
theorem cv_callN0 {k : Nat} {sp : List (Nat × Nat)} (hd : Paired (Leaf X.K) dvs dds) (h : PE X e (tCallN 0 k (spM X.K m) (fun vs zs => pick sp vs dvs zs) E0 tNil (RA X.K (fun _ => E0) fk))) : PE X e (RE X.K (fun _ => E0) (fCallN m 0 k sp dds fnil fk)) := pe_mono h fun _ _ _ z => ra_nil (re_callN hd z)
end
/-- within a def's body: what leaves a callee leaves the def -/
theorem pX {P : Program} {w : World} {K : PySem.W.Frag} {mg : Str → Option Value} {base : Heap} {N : List Str} {qual : Str} {scope : Scope} {f : Addr} {cd : Value} {A : Around} {outer : List Env} {s : Shared} {H : Hp} {E : XK} :
    Passes (L2.CX P w) (cxOf (L2.CX P w) P w K mg base N qual scope f cd A outer s H E) E := passes_call (takes_of rfl rfl rfl rfl) fun _ _ _ _ h => h
end Mi

/-! M20: how functions are reckoned, case by case. -/
namespace Mi
open PySem PySem.Spec PyProof.Rows L2 Rt
section
variable {α β : Type} {m m' : Ro α} {a : α} {c : Str} {fs : List (Str × D)} {ss s1 rs as : List Sl} {d d' : D} {t u : Tg} {i j n np k : Nat} {o o' : So} {g : FS} {x y : Int} {kp : List Nat} {r : Sl}
theorem e_bo {f : α → Ro β} : (Ro.ok a).bind f = f a := rfl
theorem e_bs {f : α → Ro β} : (Ro.stuck).bind f = .stuck := rfl
theorem e_be {f : α → Ro β} : (Ro.exc c fs ss).bind f = .exc c fs ss := rfl
theorem e_oo {f : α → So} : (Ro.ok a).so f = f a := rfl
theorem e_os {f : α → So} : (Ro.stuck).so f = .stuck := rfl
theorem e_oe {f : α → So} : (Ro.exc c fs ss).so f = .exc c fs ss := rfl
theorem e_qn : (So.nx ss).seq g = g ss := rfl
theorem e_qr : (So.rt r ss).seq g = .rt r ss := rfl
theorem e_qb : (So.bk ss).seq g = .bk ss := rfl
theorem e_qc : (So.ct ss).seq g = .ct ss := rfl
theorem e_qe : (So.exc c fs ss).seq g = .exc c fs ss := rfl
theorem e_qs : (So.stuck).seq g = .stuck := rfl
theorem e_ln : (So.nx ss).loop g = g ss := rfl
theorem e_lr : (So.rt r ss).loop g = .rt r ss := rfl
theorem e_lb : (So.bk ss).loop g = .nx ss := rfl
theorem e_lc : (So.ct ss).loop g = g ss := rfl
theorem e_le : (So.exc c fs ss).loop g = .exc c fs ss := rfl
theorem e_ls : (So.stuck).loop g = .stuck := rfl
/-! statements -/
theorem e_seq {f : FS} : fSeq f g ss = (f ss).seq g := rfl
theorem e_next : fNext ss = .nx ss := rfl
theorem e_drop {fe : FE} : fDrop fe ss = (fe ss).so fun p => .nx p.2 := rfl
theorem e_ret {fe : FE} : fRet fe ss = (fe ss).so fun p => .rt p.1 p.2 := rfl
theorem e_retN : fRetN ss = .rt (.fz .non) ss := rfl
theorem e_break : fBreak ss = .bk ss := rfl
theorem e_cont : fCont ss = .ct ss := rfl
def cIfS (f g : FS) (p : Bool × List Sl) : So := if p.1 = true then f p.2 else g p.2
theorem e_ifS {ft : FT} {f : FS} : fIfS ft f g ss = (ft ss).so (cIfS f g) := rfl
theorem e_cifS {f : FS} {b : Bool} : cIfS f g (b, ss) = if b = true then f ss else g ss := rfl
theorem e_never : fNever ss = .stuck := rfl
def cSet (i : Nat) (p : Sl × List Sl) : So := kset i p.1 p.2
theorem e_set {fe : FE} : fSet i fe ss = (fe ss).so (cSet i) := rfl
theorem e_cset : cSet i (r, ss) = kset i r ss := rfl
theorem e_kset : kset i r ss = if i < ss.length then .nx (setS i r ss) else .stuck := rfl
theorem e_setf : setS i (.fz d) ss = (ss.map (Sl.kill i)).set i (.fz d) := rfl
theorem e_seto : setS i (.ow t d) ss = (ss.map (Sl.kill i)).set i (.ow t d) := rfl
theorem e_setu : setS i .un ss = (ss.map (Sl.kill i)).set i .un := rfl
theorem e_seta : setS i (.al j) ss = if j = i then ss else (ss.map (Sl.kill i)).set i (.al j) := rfl
theorem e_kf : Sl.kill i (.fz d) = .fz d := rfl
theorem e_ko : Sl.kill i (.ow t d) = .ow t d := rfl
theorem e_ku : Sl.kill i .un = .un := rfl
theorem e_ka : Sl.kill i (.al j) = if j = i then .un else .al j := rfl
def cAsg (g : FG) (p : Sl × List Sl) : So := g p.1 p.2
theorem e_asg {g : FG} {fe : FE} : fAsg g fe ss = (fe ss).so (cAsg g) := rfl
theorem e_casg {g : FG} : cAsg g (r, ss) = g r ss := rfl
theorem e_gN : gN i r ss = kset i r ss := rfl
def gT1 (n : Nat) (gs : List FG) (ss : List Sl) : Option (Tg × D) → So
  | some (t, .tup ds) => if t.flat = true ∧ ds.length = n then gsL gs ds ss else .stuck
  | _ => .stuck
theorem e_gT {gs : List FG} : gT n gs r ss = gT1 n gs ss (r.val ss) := by unfold gT gT1; rfl
theorem e_gT1 {gs : List FG} {ds : List D} : gT1 n gs ss (some (t, .tup ds)) = if t.flat = true ∧ ds.length = n then gsL gs ds ss else .stuck := rfl
theorem e_gs0 : gsL [] [] ss = .nx ss := rfl
theorem e_gs1 {g : FG} {gs : List FG} {ds : List D} : gsL (g :: gs) (d :: ds) ss = (g (.fz d) ss).seq (gsL gs ds) := rfl
theorem e_par {ft : FA} : fPar2 i j ft ss = (ft ss).so fun p => kpar i j p.1 p.2 := rfl
def cPar (i : Nat) (a : Sl) (s : List Sl) : So := kset i a s
theorem e_cpar {a : Sl} : cPar i a ss = kset i a ss := rfl
theorem e_kpar {a b : Sl} : kpar i j [a, b] ss = if (∀ k, a = .al k → k ≠ j) ∧ i ≠ j then (kset j b ss).seq (cPar i a) else .stuck := rfl
theorem e_kparF {b : Sl} : kpar i j [.fz d, b] ss = if i = j then .stuck else (kset j b ss).seq (cPar i (.fz d)) := by
  rw [e_kpar]
  by_cases q : i = j
  · rw [if_neg (fun z => z.2 q), if_pos q]
  · rw [if_pos ⟨fun k e => (by cases e), q⟩, if_neg q]
theorem e_for {fi : FI} {g : FG} {f : FS} : fFor fi g f ss = (fi ss).so fun p => forD g f p.1 p.2 := rfl
theorem e_for0 {g : FG} {f : FS} : forD g f [] ss = .nx ss := rfl
def cFor (g : FG) (f : FS) (ds : List D) (s : List Sl) : So := (f s).loop (forD g f ds)
theorem e_for1 {g : FG} {f : FS} {ds : List D} : forD g f (d :: ds) ss = (g (.fz d) ss).seq (cFor g f ds) := rfl
theorem e_cfor {g : FG} {f : FS} {ds : List D} : cFor g f ds ss = (f ss).loop (forD g f ds) := rfl
def iSeq1 (p : Sl × List Sl) : Ro (List D × List Sl) := match p.1 with
  | .fz (.lst xs) => .ok (xs, p.2)
  | .fz (.tup xs) => .ok (xs, p.2)
  | _ => .stuck
theorem e_iseq {fa : FE} : iSeqF fa ss = (ffrz fa ss).bind iSeq1 := rfl
theorem e_iseqL {ds : List D} : iSeq1 (.fz (.lst ds), ss) = .ok (ds, ss) := rfl
theorem e_iseqT {ds : List D} : iSeq1 (.fz (.tup ds), ss) = .ok (ds, ss) := rfl
theorem e_irng {ft : FA} : iRngF ft ss = (ft ss).bind fun p => krng p.1 p.2 := rfl
theorem e_rng1 : krng [.fz (.int x)] ss = if inRg x then .ok (rangeD 0 x.toNat, ss) else .stuck := rfl
theorem e_rng2 : krng [.fz (.int x), .fz (.int y)] ss = if inRg x ∧ inRg y then .ok (rangeD x (y - x).toNat, ss) else .stuck := rfl
/-! expressions -/
def fvO (i : Nat) (ss : List Sl) : Option Sl → Ro (Sl × List Sl)
  | some (.fz d) => .ok (.fz d, ss)
  | some (.ow _ _) => .ok (.al i, ss)
  | some (.al j) => .ok (.al j, ss)
  | _ => .stuck
theorem e_vr : fvar i ss = fvO i ss ss[i]? := by unfold fvar fvO; rfl
theorem e_vf : fvO i ss (some (.fz d)) = .ok (.fz d, ss) := rfl
theorem e_vo : fvO i ss (some (.ow t d)) = .ok (.al i, ss) := rfl
theorem e_va : fvO i ss (some (.al j)) = .ok (.al j, ss) := rfl
theorem e_vu : fvO i ss (some .un) = .stuck := rfl
theorem e_vn : fvO i ss none = .stuck := rfl
theorem e_cc : fc d ss = .ok (.fz d, ss) := rfl
theorem e_nil : fnil ss = .ok ([], ss) := rfl
def cCons2 (a : Sl) (q : List Sl × List Sl) : Ro (List Sl × List Sl) := .ok (a :: q.1, q.2)
def cCons (ft : FA) (p : Sl × List Sl) : Ro (List Sl × List Sl) := (ft p.2).bind (cCons2 p.1)
theorem e_cons {fa : FE} {ft : FA} : fcons fa ft ss = (fa ss).bind (cCons ft) := rfl
theorem e_ccons {ft : FA} : cCons ft (r, ss) = (ft ss).bind (cCons2 r) := rfl
theorem e_ccons2 : cCons2 r (rs, ss) = .ok (r :: rs, ss) := rfl
def alv : Option Sl → Option (Tg × D)
  | some (.fz d) => some (.fz, d)
  | some (.ow t d) => some (t, d)
  | _ => none
theorem e_valf : (Sl.fz d).val ss = some (.fz, d) := rfl
theorem e_valo : (Sl.ow t d).val ss = some (t, d) := rfl
theorem e_vala : (Sl.al i).val ss = alv ss[i]? := by unfold Sl.val alv; rfl
theorem e_alf : alv (some (.fz d)) = some (.fz, d) := rfl
theorem e_alo : alv (some (.ow t d)) = some (t, d) := rfl
theorem e_vl0 : valL ss [] = some [] := rfl
theorem e_vl1 : valL ss (r :: rs) = (r.val ss).bind fun x => (valL ss rs).bind fun xs => some (x :: xs) := rfl
theorem e_orS : orS (some r) ss = .ok (r, ss) := rfl
theorem e_orN : orS none ss = .stuck := rfl
def cK1 (op : Tg → D → Option Sl) (p : Sl × List Sl) : Ro (Sl × List Sl) := k1 op p.1 p.2
def cK2 (op : Tg → D → Tg → D → Option Sl) (a : Sl) (p : Sl × List Sl) : Ro (Sl × List Sl) := k2 op a p.1 p.2
def cF2 (op : Tg → D → Tg → D → Option Sl) (fb : FE) (p : Sl × List Sl) : Ro (Sl × List Sl) := (fb p.2).bind (cK2 op p.1)
def cKN (op : List (Tg × D) → Option Sl) (p : List Sl × List Sl) : Ro (Sl × List Sl) := kN op p.1 p.2
theorem e_f1 {op : Tg → D → Option Sl} {fa : FE} : f1 op fa ss = (fa ss).bind (cK1 op) := rfl
theorem e_ck1 {op : Tg → D → Option Sl} : cK1 op (r, ss) = k1 op r ss := rfl
theorem e_cf2 {op : Tg → D → Tg → D → Option Sl} {fb : FE} : cF2 op fb (r, ss) = (fb ss).bind (cK2 op r) := rfl
theorem e_ck2 {op : Tg → D → Tg → D → Option Sl} {a : Sl} : cK2 op a (r, ss) = k2 op a r ss := rfl
theorem e_ckN {op : List (Tg × D) → Option Sl} : cKN op (rs, ss) = kN op rs ss := rfl
theorem e_f2 {op : Tg → D → Tg → D → Option Sl} {fa fb : FE} : f2 op fa fb ss = (fa ss).bind (cF2 op fb) := rfl
theorem e_fN {op : List (Tg × D) → Option Sl} {fa : FA} : fN op fa ss = (fa ss).bind (cKN op) := rfl
theorem e_k1 {op : Tg → D → Option Sl} {a : Sl} : k1 op a ss = orS ((a.val ss).bind fun x => op x.1 x.2) ss := rfl
theorem e_k2 {op : Tg → D → Tg → D → Option Sl} {a b : Sl} : k2 op a b ss = orS ((a.val ss).bind fun x => (b.val ss).bind fun y => op x.1 x.2 y.1 y.2) ss := rfl
theorem e_kN {op : List (Tg × D) → Option Sl} : kN op rs ss = orS ((valL ss rs).bind op) ss := rfl
def cFrz (p : Sl × List Sl) : Ro (Sl × List Sl) := kfrz p.1 p.2
theorem e_fz {fa : FE} : ffrz fa ss = (fa ss).bind cFrz := rfl
theorem e_cfrz : cFrz (r, ss) = kfrz r ss := rfl
theorem e_kff : kfrz (.fz d) ss = .ok (.fz d, ss) := rfl
theorem e_kfo : kfrz (.ow t d) ss = .ok (.fz d, ss) := rfl
def kfz (i : Nat) (ss : List Sl) : Option Sl → Ro (Sl × List Sl)
  | some (.ow _ d) => .ok (.fz d, ss.set i (.fz d))
  | some (.fz d) => .ok (.fz d, ss)
  | _ => .stuck
theorem e_kfa : kfrz (.al i) ss = kfz i ss ss[i]? := by unfold kfrz kfz; rfl
theorem e_kfzo : kfz i ss (some (.ow t d)) = .ok (.fz d, ss.set i (.fz d)) := rfl
theorem e_kfzf : kfz i ss (some (.fz d)) = .ok (.fz d, ss) := rfl
theorem e_fl0 : frzL [] = some [] := rfl
theorem e_flf : frzL (.fz d :: rs) = (frzL rs).bind fun ds => some (d :: ds) := rfl
theorem e_flo : frzL (.ow t d :: rs) = (frzL rs).bind fun ds => some (d :: ds) := rfl
def kd1 (f : List D → D) (own : Bool) (ss : List Sl) : Option (List D) → Ro (Sl × List Sl)
  | some ds => if ds.length ≤ sizeLine then .ok (if own then .ow .o1 (f ds) else .fz (f ds), ss) else .stuck
  | none => .stuck
theorem e_tup {ft : FA} : fTup ft ss = (ft ss).bind fun p => kd1 .tup false p.2 (frzL p.1) := rfl
theorem e_lst {ft : FA} : fLst ft ss = (ft ss).bind fun p => kd1 .lst true p.2 (frzL p.1) := rfl
theorem e_kdt {f : List D → D} {ds : List D} : kd1 f false ss (some ds) = if ds.length ≤ sizeLine then .ok (.fz (f ds), ss) else .stuck := rfl
theorem e_kdl {f : List D → D} {ds : List D} : kd1 f true ss (some ds) = if ds.length ≤ sizeLine then .ok (.ow .o1 (f ds), ss) else .stuck := rfl
theorem sz_of {n : Nat} (h : n < 1000) : n ≤ sizeLine := by unfold sizeLine; omega
theorem sy_of {n : Nat} (h : n < 1000) : n < sizeLine := by unfold sizeLine; omega
theorem sy0 : 0 < sizeLine := sy_of (by decide)
theorem sy1 : 1 < sizeLine := sy_of (by decide)
theorem sy2 : 2 < sizeLine := sy_of (by decide)
theorem sy3 : 3 < sizeLine := sy_of (by decide)
theorem sy4 : 4 < sizeLine := sy_of (by decide)
theorem sy5 : 5 < sizeLine := sy_of (by decide)
theorem sy6 : 6 < sizeLine := sy_of (by decide)
theorem sy7 : 7 < sizeLine := sy_of (by decide)
theorem sy8 : 8 < sizeLine := sy_of (by decide)
theorem sy9 : 9 < sizeLine := sy_of (by decide)
theorem sy10 : 10 < sizeLine := sy_of (by decide)
theorem sy11 : 11 < sizeLine := sy_of (by decide)
theorem sy12 : 12 < sizeLine := sy_of (by decide)
theorem sy13 : 13 < sizeLine := sy_of (by decide)
theorem sy14 : 14 < sizeLine := sy_of (by decide)
theorem sy15 : 15 < sizeLine := sy_of (by decide)
theorem sz0 : 0 ≤ sizeLine := Nat.zero_le _
theorem sz1 : 1 ≤ sizeLine := sz_of (by decide)
theorem sz2 : 2 ≤ sizeLine := sz_of (by decide)
theorem sz3 : 3 ≤ sizeLine := sz_of (by decide)
theorem sz4 : 4 ≤ sizeLine := sz_of (by decide)
theorem sz5 : 5 ≤ sizeLine := sz_of (by decide)
theorem sz6 : 6 ≤ sizeLine := sz_of (by decide)
theorem sz7 : 7 ≤ sizeLine := sz_of (by decide)
theorem sz8 : 8 ≤ sizeLine := sz_of (by decide)
theorem sz9 : 9 ≤ sizeLine := sz_of (by decide)
theorem sz10 : 10 ≤ sizeLine := sz_of (by decide)
theorem sz11 : 11 ≤ sizeLine := sz_of (by decide)
theorem sz12 : 12 ≤ sizeLine := sz_of (by decide)
theorem sz13 : 13 ≤ sizeLine := sz_of (by decide)
theorem sz14 : 14 ≤ sizeLine := sz_of (by decide)
theorem sz15 : 15 ≤ sizeLine := sz_of (by decide)
def kt1 (ss : List Sl) : Option Bool → Ro (Bool × List Sl)
  | some b => .ok (b, ss)
  | none => .stuck
theorem e_test {fa : FE} : fTest fa ss = (fa ss).bind fun p => kt1 p.2 ((p.1.val p.2).bind fun x => blD x.2) := by
  unfold fTest ktest kt1; rfl
theorem e_trv {fa : FE} : fTrv fa ss = (fa ss).bind fun p => kt1 p.2 ((p.1.val p.2).bind fun x => truD x.2) := by
  unfold fTrv ktest kt1; rfl
theorem e_kt {b : Bool} : kt1 ss (some b) = .ok (b, ss) := rfl
theorem e_bl {b : Bool} : blD (.bl b) = some b := rfl
theorem e_tb {b : Bool} : truD (.bl b) = some b := rfl
theorem e_ti : truD (.int x) = some (x != 0) := rfl
theorem e_tn : truD .non = some false := rfl
theorem e_tl {ds : List D} : truD (.lst ds) = some !ds.isEmpty := rfl
theorem e_tt {ds : List D} : truD (.tup ds) = some !ds.isEmpty := rfl
def cAnd (fb : FT) (p : Bool × List Sl) : Ro (Bool × List Sl) := if p.1 = true then fb p.2 else .ok (false, p.2)
def cOr (fb : FT) (p : Bool × List Sl) : Ro (Bool × List Sl) := if p.1 = true then .ok (true, p.2) else fb p.2
def cIf (fa fb : FE) (p : Bool × List Sl) : Ro (Sl × List Sl) := if p.1 = true then fa p.2 else fb p.2
theorem e_and {fa fb : FT} : fAnd fa fb ss = (fa ss).bind (cAnd fb) := rfl
theorem e_cand {fb : FT} {b : Bool} : cAnd fb (b, ss) = if b = true then fb ss else .ok (false, ss) := rfl
theorem e_cor {fb : FT} {b : Bool} : cOr fb (b, ss) = if b = true then .ok (true, ss) else fb ss := rfl
theorem e_cif {fa fb : FE} {b : Bool} : cIf fa fb (b, ss) = if b = true then fa ss else fb ss := rfl
theorem e_or {fa fb : FT} : fOr fa fb ss = (fa ss).bind (cOr fb) := rfl
theorem e_not {fa : FT} : fNot fa ss = (fa ss).bind fun p => .ok (!p.1, p.2) := rfl
theorem e_if {ft : FT} {fa fb : FE} : fIf ft fa fb ss = (ft ss).bind (cIf fa fb) := rfl
theorem e_yes : fYes ss = .ok (true, ss) := rfl
def av1 (fb : FE) (p : Sl × List Sl) : Option Bool → Ro (Sl × List Sl)
  | some true => fb p.2
  | some false => .ok p
  | none => .stuck
def ov1 (fb : FE) (p : Sl × List Sl) : Option Bool → Ro (Sl × List Sl)
  | some true => .ok p
  | some false => fb p.2
  | none => .stuck
def cAndV (fb : FE) (p : Sl × List Sl) : Ro (Sl × List Sl) := av1 fb p (ktru p.1 p.2)
def cOrV (fb : FE) (p : Sl × List Sl) : Ro (Sl × List Sl) := ov1 fb p (ktru p.1 p.2)
theorem e_andV {fa fb : FE} : fAndV fa fb ss = (fa ss).bind (cAndV fb) := by unfold fAndV cAndV av1; rfl
theorem e_candV {fb : FE} : cAndV fb (r, ss) = av1 fb (r, ss) (ktru r ss) := rfl
theorem e_corV {fb : FE} : cOrV fb (r, ss) = ov1 fb (r, ss) (ktru r ss) := rfl
theorem e_orV {fa fb : FE} : fOrV fa fb ss = (fa ss).bind (cOrV fb) := by unfold fOrV cOrV ov1; rfl
theorem e_ktru {a : Sl} : ktru a ss = (a.val ss).bind fun x => truD x.2 := rfl
theorem e_avt {fb : FE} {p : Sl × List Sl} : av1 fb p (some true) = fb p.2 := rfl
theorem e_avf {fb : FE} {p : Sl × List Sl} : av1 fb p (some false) = .ok p := rfl
theorem e_ovt {fb : FE} {p : Sl × List Sl} : ov1 fb p (some true) = .ok p := rfl
theorem e_ovf {fb : FE} {p : Sl × List Sl} : ov1 fb p (some false) = fb p.2 := rfl
/-! operations -/
theorem e_add : opAdd t (.int x) u (.int y) = some (.fz (.int (x + y))) := rfl
theorem e_addL {xs ys : List D} : opAdd t (.lst xs) u (.lst ys) = if (t.flat && u.flat) = true ∧ xs.length + ys.length ≤ sizeLine then some (.ow .o1 (.lst (xs ++ ys))) else none := rfl
theorem e_sub : opSub t (.int x) u (.int y) = some (.fz (.int (x - y))) := rfl
theorem e_mul : opMul t (.int x) u (.int y) = if CMulW x y then some (.fz (.int (x * y))) else none := rfl
theorem e_fdiv : opFdiv t (.int x) u (.int y) = if CDivZ x y then some (.fz (.int (x.fdiv y))) else none := by
  by_cases h : CDivZ x y
  · rw [if_pos h]; exact congrArg (Option.map Sl.fz) (whenD_pos h)
  · rw [if_neg h]; exact congrArg (Option.map Sl.fz) (if_neg h)
theorem e_mod : opMod t (.int x) u (.int y) = if y = 0 then none else some (.fz (.int (x.fmod y))) := by
  by_cases h : y = 0
  · rw [if_pos h]; exact congrArg (Option.map Sl.fz) (if_neg (fun z => z h))
  · rw [if_neg h]; exact congrArg (Option.map Sl.fz) (whenD_pos h)
theorem e_pow : opPow t (.int x) u (.int y) = if CPow x y then some (.fz (.int (x ^ y.toNat))) else none := by
  by_cases h : CPow x y
  · rw [if_pos h]; exact congrArg (Option.map Sl.fz) (whenD_pos h)
  · rw [if_neg h]; exact congrArg (Option.map Sl.fz) (if_neg h)
theorem e_lt : opLt t (.int x) u (.int y) = some (.fz (.bl (decide (x < y)))) := rfl
theorem e_opLe : opLe t (.int x) u (.int y) = some (.fz (.bl (decide (x ≤ y)))) := rfl
theorem e_gt : opGt t (.int x) u (.int y) = some (.fz (.bl (decide (y < x)))) := rfl
theorem e_ge : opGe t (.int x) u (.int y) = some (.fz (.bl (decide (y ≤ x)))) := rfl
theorem e_neg : opNeg t (.int x) = some (.fz (.int (-x))) := rfl
theorem e_opNot : opNot t d = (truD d).map fun b => .fz (.bl (!b)) := rfl
theorem e_abs : opAbs [(t, .int x)] = some (.fz (.int (x.natAbs : Nat))) := rfl
theorem e_lenL {ds : List D} : opLen [(t, .lst ds)] = some (.fz (.int (ds.length : Nat))) := rfl
theorem e_lenT {ds : List D} : opLen [(t, .tup ds)] = some (.fz (.int (ds.length : Nat))) := rfl
theorem e_list {ds : List D} : opList [(t, .lst ds)] = if t.flat = true then some (.ow .o1 (.lst ds)) else none := rfl
theorem e_listT {ds : List D} : opList [(t, .tup ds)] = if t.flat = true then some (.ow .o1 (.lst ds)) else none := rfl
theorem e_tupL {ds : List D} : opTupOf [(t, .lst ds)] = if t.flat = true then some (.fz (.tup ds)) else none := rfl
theorem e_tupT {ds : List D} : opTupOf [(.fz, .tup ds)] = some (.fz (.tup ds)) := rfl
theorem e_eq : opEq t d u d' = (eqD d d').map fun b => .fz (.bl b) := rfl
theorem e_ne : opNe t d u d' = (eqD d d').map fun b => .fz (.bl (!b)) := rfl
theorem e_eqI : eqD (.int x) (.int y) = some (decide (x = y)) := rfl
theorem e_eqS {x y : Str} : eqD (.str x) (.str y) = some (decide (x = y)) := rfl
theorem e_isN : opIs t d u .non = some (.fz (.bl (isNonD d))) := rfl
theorem e_isnN : opIsNot t d u .non = some (.fz (.bl (!isNonD d))) := rfl
theorem e_ixL {ds : List D} : opIx t (.lst ds) u (.int x) = (atI ds x).bind (partSl t) := rfl
theorem e_ixT {ds : List D} : opIx t (.tup ds) u (.int x) = (atI ds x).bind (partSl t) := rfl
theorem e_ixD {kvs : List (Key × D)} : opIx t (.dk kvs) u d = d.key?.bind fun k => (getK kvs k).bind (partSl t) := rfl
theorem e_keyI : D.key? (.int x) = some (.inl x) := rfl
theorem e_keyS {x : Str} : D.key? (.str x) = some (.inr x) := rfl
theorem e_partZ : partSl .fz d = some (.fz d) := rfl
theorem e_partO : partSl .o1 d = some (.fz d) := rfl
theorem e_flZ : Tg.flat .fz = true := rfl
theorem e_flO : Tg.flat .o1 = true := rfl
/-! parts of slices, displays of dicts -/
def cSl3 (a : Sl) (lo : Option Int) (u : Option Int × List Sl) : Ro (Sl × List Sl) := ksl a lo u.1 u.2
def cSl2 (a : Sl) (fh : FO) (l : Option Int × List Sl) : Ro (Sl × List Sl) := (fh l.2).bind (cSl3 a l.1)
def cSl1 (fl fh : FO) (p : Sl × List Sl) : Ro (Sl × List Sl) := (fl p.2).bind (cSl2 p.1 fh)
theorem e_sl {fa : FE} {fl fh : FO} : fSl fa fl fh ss = (fa ss).bind (cSl1 fl fh) := rfl
theorem e_csl1 {fl fh : FO} : cSl1 fl fh (r, ss) = (fl ss).bind (cSl2 r fh) := rfl
theorem e_csl2 {fh : FO} {lo : Option Int} : cSl2 r fh (lo, ss) = (fh ss).bind (cSl3 r lo) := rfl
theorem e_csl3 {lo hi : Option Int} : cSl3 r lo (hi, ss) = ksl r lo hi ss := rfl
theorem e_noP : fNoPart ss = .ok (none, ss) := rfl
theorem e_part {fa : FE} : fPart fa ss = (fa ss).bind fun p => kpart p.1 p.2 := rfl
theorem e_kpart : kpart (.fz (.int x)) ss = .ok (some x, ss) := rfl
theorem e_ksl {a : Sl} {lo hi : Option Int} : ksl a lo hi ss = orS ((a.val ss).bind fun x => opSl x.1 x.2 lo hi) ss := rfl
theorem e_slL {ds : List D} {lo hi : Option Int} : opSl t (.lst ds) lo hi = if t.flat = true then some (.ow .o1 (.lst (cutD ds lo hi))) else none := rfl
theorem e_slS {ns : List Int} {lo hi : Option Int} : opSl t (.scr ns) lo hi = some (.ow .o1 (.lst ((cutD ns lo hi).map .int))) := rfl
def cDisp (p : List Sl × List Sl) : Ro (Sl × List Sl) := kdispD p.1 p.2
theorem e_disp {ps : List (FE × FE)} : fDisp ps ss = (pairsF ps ss).bind cDisp := rfl
theorem e_cdisp : cDisp (rs, ss) = kdispD rs ss := rfl
theorem e_pairs0 : pairsF [] ss = .ok ([], ss) := rfl
def cPs3 (a b : Sl) (q : List Sl × List Sl) : Ro (List Sl × List Sl) := .ok (a :: b :: q.1, q.2)
def cPs2 (a : Sl) (ps : List (FE × FE)) (p : Sl × List Sl) : Ro (List Sl × List Sl) := (pairsF ps p.2).bind (cPs3 a p.1)
def cPs1 (fb : FE) (ps : List (FE × FE)) (p : Sl × List Sl) : Ro (List Sl × List Sl) := (fb p.2).bind (cPs2 p.1 ps)
theorem e_pairs1 {fa fb : FE} {ps : List (FE × FE)} : pairsF ((fa, fb) :: ps) ss = (fa ss).bind (cPs1 fb ps) := rfl
theorem e_cps1 {fb : FE} {ps : List (FE × FE)} : cPs1 fb ps (r, ss) = (fb ss).bind (cPs2 r ps) := rfl
theorem e_cps2 {a : Sl} {ps : List (FE × FE)} : cPs2 a ps (r, ss) = (pairsF ps ss).bind (cPs3 a r) := rfl
theorem e_cps3 {a b : Sl} : cPs3 a b (rs, ss) = .ok (a :: b :: rs, ss) := rfl
def kdD (ss : List Sl) : Option (List (Key × D)) → Ro (Sl × List Sl)
  | some kvs => if kvs.length ≤ 15 ∧ (kvs.map (·.1)).Nodup then .ok (.ow .o1 (.dk kvs), ss) else .stuck
  | none => .stuck
theorem e_kdispD : kdispD rs ss = kdD ss ((frzL rs).bind Mi.kvsOf) := by unfold kdispD kdD; rfl
theorem e_kdD {kvs : List (Key × D)} : kdD ss (some kvs) = if kvs.length ≤ 15 ∧ (kvs.map (·.1)).Nodup then .ok (.ow .o1 (.dk kvs), ss) else .stuck := rfl
theorem e_kv0 : Mi.kvsOf [] = some [] := rfl
theorem e_kv1 {k : D} {ds : List D} : Mi.kvsOf (k :: d :: ds) = (k.key?).bind fun k => (Mi.kvsOf ds).bind fun kvs => some ((k, d) :: kvs) := rfl
theorem e_dnew : fDNew ss = .ok (.ow .o1 (.dk []), ss) := rfl
/-! kinds -/
theorem e_isiT {cls : List Str} {x : D} {n : String} : opIsi cls [(t, x), (u, .ty n)] = (kindD x).bind fun k => (isiOne cls k (.ty n)).map fun b => .fz (.bl b) := rfl
theorem e_isiO {cls : List Str} {x : D} {n : Str} : opIsi cls [(t, x), (u, .obj n)] = (kindD x).bind fun k => (isiOne cls k (.obj n)).map fun b => .fz (.bl b) := rfl
theorem e_kdN : kindD .non = some (.inl .non) := rfl
theorem e_kdB {b : Bool} : kindD (.bl b) = some (.inl .bool) := rfl
theorem e_kdI : kindD (.int x) = some (.inl .int) := rfl
theorem e_kdS {x : Str} : kindD (.str x) = some (.inl .str) := rfl
theorem e_kdT {ds : List D} : kindD (.tup ds) = some (.inl .tuple) := rfl
theorem e_kdL {ds : List D} : kindD (.lst ds) = some (.inl .list) := rfl
theorem e_kdK {ds : List (Key × D)} : kindD (.dk ds) = some (.inl .dict) := rfl
theorem e_kdX {fs : List (Str × D)} : kindD (.ins c fs) = some (.inr c) := rfl
theorem e_is1 {cls : List Str} {b : Bt} {n : String} : isiOne cls (.inl b) (.ty n) = (Bt.of n).map fun e => b.isi e := rfl
theorem e_is2 {cls : List Str} {b : Bt} {c : Str} : isiOne cls (.inl b) (.obj c) = if c ∈ cls then some false else none := rfl
theorem e_is3 {cls : List Str} {n : String} : isiOne cls (.inr c) (.ty n) = if c ∈ cls then (Bt.of n).map fun _ => false else none := rfl
theorem e_is4 {cls : List Str} {e : Str} : isiOne cls (.inr c) (.obj e) = if c ∈ cls ∧ e ∈ cls then some (decide (c = e)) else none := rfl
theorem e_bint : Bt.of "int" = some .int := rfl
theorem e_bbool : Bt.of "bool" = some .bool := rfl
theorem e_bstr : Bt.of "str" = some .str := rfl
theorem e_btup : Bt.of "tuple" = some .tuple := rfl
theorem e_blst : Bt.of "list" = some .list := rfl
theorem e_bdic : Bt.of "dict" = some .dict := rfl
theorem e_bisi (a b : Bt) : a.isi b = (decide (a = b) || (decide (a = .bool) && decide (b = .int))) := rfl
/-! fields -/
theorem e_fld {cs : List Str} {f : Str} {fs : List (Str × D)} : opFld cs f t (.ins c fs) = if c ∈ cs then (fs.lookup f).bind (partSl t) else none := rfl
def cSf2 (cs : List Str) (f : Str) (x : Sl) (q : Sl × List Sl) : So := ksfld cs f x q.1 q.2
def cSf1 (cs : List Str) (f : Str) (fo : FE) (p : Sl × List Sl) : So := (fo p.2).so (cSf2 cs f p.1)
theorem e_sfld {cs : List Str} {f : Str} {fo fe : FE} : fSFld cs f fo fe ss = (fe ss).so (cSf1 cs f fo) := rfl
theorem e_csf1 {cs : List Str} {f : Str} {fo : FE} : cSf1 cs f fo (r, ss) = (fo ss).so (cSf2 cs f r) := rfl
theorem e_csf2 {cs : List Str} {f : Str} {x : Sl} : cSf2 cs f x (r, ss) = ksfld cs f x r ss := rfl
def ksf1 (cs : List Str) (f : Str) (i : Nat) (ss : List Sl) : Option (List D) → Option Sl → So
  | some [d], some (.ow .o1 (.ins c fs)) => if c ∈ cs ∧ fs.length < 1000 then .nx (ss.set i (.ow .o1 (.ins c (putFD f d fs)))) else .stuck
  | _, _ => .stuck
theorem e_ksfld {cs : List Str} {f : Str} {x : Sl} : ksfld cs f x (.al i) ss = ksf1 cs f i ss (frzL [x]) ss[i]? := by
  unfold ksfld
  dsimp only
  cases h1 : ss[i]? with
  | none => cases h2 : frzL [x] <;> simp only [ksf1]
  | some e =>
    cases e with
    | ow t d =>
      cases t with
      | o1 =>
        cases d with
        | ins c fs =>
          cases h2 : frzL [x] with
          | none => rfl
          | some l =>
            match l with
            | [] => rfl
            | [d] => rfl
            | _ :: _ :: _ => rfl
        | _ => cases h2 : frzL [x] <;> simp only [ksf1]
      | _ => cases h2 : frzL [x] <;> simp only [ksf1]
    | _ => cases h2 : frzL [x] <;> simp only [ksf1]
theorem e_ksf {cs : List Str} {f : Str} {fs : List (Str × D)} : ksf1 cs f i ss (some [d]) (some (.ow .o1 (.ins c fs))) = if c ∈ cs ∧ fs.length < 1000 then .nx (ss.set i (.ow .o1 (.ins c (putFD f d fs)))) else .stuck := rfl
theorem e_put0 {f : Str} : putFD f d [] = [(f, d)] := rfl
theorem e_put1 {f g : Str} {e : D} {fs : List (Str × D)} : putFD f d ((g, e) :: fs) = if g = f then (g, d) :: fs else (g, e) :: putFD f d fs := rfl
def cSt2 (x : D) (a : Sl) (q : Sl × List Sl) : So := kst x a q.1 q.2
def cSt1 (x : D) (fk : FE) (p : Sl × List Sl) : So := (fk p.2).so (cSt2 x p.1)
def gS1 (fo fk : FE) (ss : List Sl) : Option (List D) → So
  | some [x] => (fo ss).so (cSt1 x fk)
  | _ => .stuck
theorem e_gSub {fo fk : FE} : gSubF fo fk r ss = gS1 fo fk ss (frzL [r]) := by unfold gSubF gS1; rfl
theorem e_gS1 {fo fk : FE} : gS1 fo fk ss (some [d]) = (fo ss).so (cSt1 d fk) := rfl
theorem e_cst1 {fk : FE} : cSt1 d fk (r, ss) = (fk ss).so (cSt2 d r) := rfl
theorem e_cst2 {a : Sl} : cSt2 d a (r, ss) = kst d a r ss := rfl
def kst1 (i : Nat) (x : D) (k : Option (Tg × D)) (ss : List Sl) : Option Sl → So
  | some (.ow .o1 d) => match k.bind fun kk => stD .o1 d kk.2 x with
    | some d' => .nx (ss.set i (.ow .o1 d'))
    | none => .stuck
  | _ => .stuck
def kst2 (i : Nat) (ss : List Sl) : Option D → So
  | some d' => .nx (ss.set i (.ow .o1 d'))
  | none => .stuck
theorem e_kst {ri : Sl} : kst d (.al i) ri ss = kst1 i d (ri.val ss) ss ss[i]? := by
  unfold kst
  dsimp only
  cases h1 : ss[i]? with
  | none => rfl
  | some e =>
    cases e with
    | ow t d => cases t <;> rfl
    | _ => rfl
theorem e_kst1 {k : Option (Tg × D)} : kst1 i d k ss (some (.ow .o1 d')) = kst2 i ss (k.bind fun kk => stD .o1 d' kk.2 d) := rfl
theorem e_kst2 : kst2 i ss (some d) = .nx (ss.set i (.ow .o1 d)) := rfl
theorem e_stD {kvs : List (Key × D)} {k : D} : stD t (.dk kvs) k d = (k.key?).bind fun k => if kvs.length < sizeLine then some (.dk (putD kvs k d)) else none := rfl
/-! calls -/
def cCall (m : Fm) (dvs : List D) (p : List Sl × List Sl) : Ro (Sl × List Sl) := kcall m (p.1 ++ dvs.map .fz) p.2
theorem e_call {m : Fm} {dvs : List D} {ft : FA} : fCall m dvs ft ss = (ft ss).bind (cCall m dvs) := rfl
theorem e_ccall {m : Fm} {dvs : List D} : cCall m dvs (rs, ss) = kcall m (rs ++ dvs.map .fz) ss := rfl
theorem e_call0 {m : Fm} {dvs : List D} : fCall0 m dvs ss = kcall m (dvs.map .fz) ss := rfl
def kc2 (rs as s1 : List Sl) : Fo → Ro (Sl × List Sl)
  | .ret r as' => if noAl as' = true then (match resOf rs as' r with
      | some r' => .ok (r', back rs as as' s1)
      | none => .stuck) else .stuck
  | .exc c fs as' => if noAl as' = true then .exc c fs (back rs as as' s1) else .stuck
  | .stuck => .stuck
def kc1 (m : Fm) (rs : List Sl) : Option (List Sl × List Sl) → Ro (Sl × List Sl)
  | none => .stuck
  | some q => kc2 rs q.1 q.2 (m q.1)
def kc3 (s1 : List Sl) : Option Sl → Ro (Sl × List Sl)
  | some r' => .ok (r', s1)
  | none => .stuck
theorem e_kcall {m : Fm} : kcall m rs ss = kc1 m rs (lend rs ss) := by
  unfold kcall kc1 kc2
  cases lend rs ss with
  | none => rfl
  | some q => cases h : m q.1 <;> simp only [h] <;> rfl
theorem e_kc1 {m : Fm} : kc1 m rs (some (as, s1)) = kc2 rs as s1 (m as) := rfl
theorem e_kc2 {as' : List Sl} : kc2 rs as s1 (.ret r as') = if noAl as' = true then kc3 (back rs as as' s1) (resOf rs as' r) else .stuck := by
  unfold kc2 kc3
  dsimp only
theorem e_kc2e {as' : List Sl} : kc2 rs as s1 (.exc c fs as') = if noAl as' = true then .exc c fs (back rs as as' s1) else .stuck := rfl
theorem e_kc2s : kc2 rs as s1 .stuck = .stuck := rfl
theorem e_kc3 : kc3 s1 (some r) = .ok (r, s1) := rfl
theorem e_le0 : lend [] ss = some ([], ss) := rfl
theorem e_lef : lend (.fz d :: rs) ss = (lend rs ss).map fun p => (.fz d :: p.1, p.2) := rfl
theorem e_leo : lend (.ow t d :: rs) ss = (lend rs ss).map fun p => (.ow t d :: p.1, p.2) := rfl
def le1 (i : Nat) (rs ss : List Sl) : Option Sl → Option (List Sl × List Sl)
  | some (.ow t d) => (lend rs (ss.set i .un)).map fun p => (.ow t d :: p.1, p.2)
  | some (.fz d) => (lend rs ss).map fun p => (.fz d :: p.1, p.2)
  | _ => none
theorem e_lea : lend (.al i :: rs) ss = le1 i rs ss ss[i]? := by
  rw [lend]; unfold le1; rfl
theorem e_leao : le1 i rs ss (some (.ow t d)) = (lend rs (ss.set i .un)).map fun p => (.ow t d :: p.1, p.2) := rfl
theorem e_leaf : le1 i rs ss (some (.fz d)) = (lend rs ss).map fun p => (.fz d :: p.1, p.2) := rfl
theorem e_ba0 : back [] [] [] ss = ss := rfl
theorem e_ba1 : back [] [] (r :: as) ss = ss := rfl
theorem e_baf {l : List Sl} {a b : Sl} : back (.fz d :: rs) (a :: l) (b :: as) ss = back rs l as ss := by cases a <;> cases b <;> rfl
theorem e_bao {l : List Sl} {a b : Sl} : back (.ow t d :: rs) (a :: l) (b :: as) ss = back rs l as ss := by cases a <;> cases b <;> rfl
theorem e_baa {l : List Sl} {u' : Tg} : back (.al i :: rs) (.ow t d :: l) (.ow u' d' :: as) ss = back rs l as (ss.set i (.ow u' d')) := rfl
theorem e_baz {l : List Sl} : back (.al i :: rs) (.ow t d :: l) (.fz d' :: as) ss = back rs l as (ss.set i (.fz d')) := rfl
theorem e_bau {l : List Sl} : back (.al i :: rs) (.ow t d :: l) (.un :: as) ss = back rs l as ss := rfl
theorem e_bag {l : List Sl} {b : Sl} : back (.al i :: rs) (.fz d :: l) (b :: as) ss = back rs l as ss := by cases b <;> rfl
theorem e_ref : resOf rs as (.fz d) = some (.fz d) := rfl
theorem e_reo : resOf rs as (.ow t d) = some (.ow t d) := rfl
theorem e_reu : resOf rs as .un = none := rfl
def re1 : Option Sl → Option Sl → Option Sl
  | some (.al i), some (.ow _ _) => some (.al i)
  | some (.al i), some (.fz _) => some (.al i)
  | _, _ => none
theorem e_rea : resOf rs as (.al k) = re1 rs[k]? as[k]? := by unfold resOf re1; rfl
theorem e_reao : re1 (some (.al i)) (some (.ow t d)) = some (.al i) := rfl
theorem e_reaf : re1 (some (.al i)) (some (.fz d)) = some (.al i) := rfl
theorem e_na0 : noAl [] = true := rfl
theorem e_naf : noAl (.fz d :: rs) = noAl rs := rfl
theorem e_nao : noAl (.ow t d :: rs) = noAl rs := rfl
theorem e_nau : noAl (.un :: rs) = noAl rs := rfl
def cMeth2 (m : Fm) (dds : List D) (a : Sl) (q : List Sl × List Sl) : Ro (Sl × List Sl) := kcall m (a :: (q.1 ++ dds.map .fz)) q.2
def cMeth (c name : Str) (m : Fm) (dds : List D) (ft : FA) (p : Sl × List Sl) : Ro (Sl × List Sl) := if kmeth c name p.1 p.2 = true then (ft p.2).bind (cMeth2 m dds p.1) else .stuck
theorem e_meth {c name : Str} {m : Fm} {dds : List D} {fo : FE} {ft : FA} : fMeth c name m dds fo ft ss = (fo ss).bind (cMeth c name m dds ft) := rfl
theorem e_cmeth {c name : Str} {m : Fm} {dds : List D} {ft : FA} : cMeth c name m dds ft (r, ss) = if kmeth c name r ss = true then (ft ss).bind (cMeth2 m dds r) else .stuck := rfl
theorem e_cmeth2 {m : Fm} {dds : List D} {a : Sl} : cMeth2 m dds a (rs, ss) = kcall m (a :: (rs ++ dds.map .fz)) ss := rfl
theorem e_meth0 {c name : Str} {m : Fm} {dds : List D} {fo : FE} : fMeth0 c name m dds fo ss = (fo ss).bind (cMeth c name m dds fnil) := rfl
def km1 (c name : Str) : Option (Tg × D) → Bool
  | some (_, .ins c' fs) => decide (c' = c) && (fs.lookup name).isNone
  | _ => false
theorem e_kmeth {c name : Str} : kmeth c name r ss = km1 c name (r.val ss) := by unfold kmeth km1; rfl
theorem e_km1 {c c' name : Str} {fs : List (Str × D)} : km1 c name (some (t, .ins c' fs)) = (decide (c' = c) && (fs.lookup name).isNone) := rfl
def cMake (c : Str) (tg : Tg) (m : Fm) (dds : List D) (p : List Sl × List Sl) : Ro (Sl × List Sl) := kcall (mkM m) (.ow tg (.ins c []) :: (p.1 ++ dds.map .fz)) p.2
theorem e_make {c : Str} {tg : Tg} {m : Fm} {dds : List D} {ft : FA} : fMake c tg m dds ft ss = (ft ss).bind (cMake c tg m dds) := rfl
theorem e_cmake {c : Str} {tg : Tg} {m : Fm} {dds : List D} : cMake c tg m dds (rs, ss) = kcall (mkM m) (.ow tg (.ins c []) :: (rs ++ dds.map .fz)) ss := rfl
def mk1 : Fo → Fo
  | .ret (.fz .non) (.ow t d :: as') => .ret (.ow t d) (.un :: as')
  | .exc c fs as' => .exc c fs as'
  | _ => .stuck
theorem e_mkM {m : Fm} : mkM m as = mk1 (m as) := rfl
theorem e_mk1 : mk1 (.ret (.fz .non) (.ow t d :: as)) = .ret (.ow t d) (.un :: as) := rfl
theorem e_mk1e : mk1 (.exc c fs as) = .exc c fs as := rfl
def cKw2 (m : Fm) (n k : Nat) (sp : List (Nat × Nat)) (dds : List D) (rs : List Sl) (q : List Sl × List Sl) : Ro (Sl × List Sl) := kcallK m n k sp dds rs q.1 q.2
def cKw1 (m : Fm) (n k : Nat) (sp : List (Nat × Nat)) (dds : List D) (fk : FA) (p : List Sl × List Sl) : Ro (Sl × List Sl) := (fk p.2).bind (cKw2 m n k sp dds p.1)
theorem e_callN {m : Fm} {sp : List (Nat × Nat)} {dds : List D} {ft fk : FA} : fCallN m n k sp dds ft fk ss = (ft ss).bind (cKw1 m n k sp dds fk) := rfl
theorem e_ckw1 {m : Fm} {sp : List (Nat × Nat)} {dds : List D} {fk : FA} : cKw1 m n k sp dds fk (rs, ss) = (fk ss).bind (cKw2 m n k sp dds rs) := rfl
theorem e_ckw2 {m : Fm} {sp : List (Nat × Nat)} {dds : List D} {ws : List Sl} : cKw2 m n k sp dds rs (ws, ss) = kcallK m n k sp dds rs ws ss := rfl
theorem e_kcallK {m : Fm} {sp : List (Nat × Nat)} {dds : List D} {ws : List Sl} : kcallK m n k sp dds rs ws ss = if rs.length = n ∧ ws.length = k ∧ plainS rs = true ∧ plainS ws = true then kcall m (pick sp rs (dds.map .fz) ws) ss else .stuck := rfl
theorem e_pl0 : plainS [] = true := rfl
theorem e_plf : plainS (.fz d :: rs) = plainS rs := rfl
theorem e_pla : plainS (.al i :: rs) = plainS rs := rfl
theorem e_pick0 {us ds ws : List α} : pick [] us ds ws = [] := rfl
theorem e_pick1 {p : Nat × Nat} {sp : List (Nat × Nat)} {us ds ws : List α} : pick (p :: sp) us ds ws = ((if p.1 = 0 then us else if p.1 = 1 then ds else ws)[p.2]?).toList ++ pick sp us ds ws := rfl
/-! comprehensions -/
def cComp (g : FG) (ft : FT) (fe : FE) (n : Nat) (vs : List Nat) (p : List D × List Sl) : Ro (Sl × List Sl) := kcomp g ft fe n vs p.1 p.2
theorem e_comp {fi : FI} {g : FG} {ft : FT} {fe : FE} {vs : List Nat} : fComp fi g ft fe n vs ss = (fi ss).bind (cComp g ft fe n vs) := rfl
theorem e_ccomp {g : FG} {ft : FT} {fe : FE} {vs : List Nat} {ds : List D} : cComp g ft fe n vs (ds, ss) = kcomp g ft fe n vs ds ss := rfl
def cRest (s0 : List Sl) (vs : List Nat) (q : List D × List Sl) : Ro (Sl × List Sl) := .ok (.ow .o1 (.lst q.1), restS s0 q.2 vs)
theorem e_crest {s0 : List Sl} {vs : List Nat} {ds : List D} : cRest s0 vs (ds, ss) = .ok (.ow .o1 (.lst ds), restS s0 ss vs) := rfl
theorem e_kcomp {g : FG} {ft : FT} {fe : FE} {vs : List Nat} {ds : List D} : kcomp g ft fe n vs ds ss = if okW n vs ss = true then (compD g ft fe vs ds [] (wipeS ss vs)).bind (cRest ss vs) else .stuck := rfl
theorem e_cD0 {g : FG} {ft : FT} {fe : FE} {vs : List Nat} {acc : List D} : compD g ft fe vs [] acc ss = .ok (acc, ss) := rfl
def cD2 (k : List D → List Sl → Ro (List D × List Sl)) (acc : List D) (vs : List Nat) (p : Sl × List Sl) : Ro (List D × List Sl) := match p.1 with
  | .fz e => if acc.length < sizeLine then k (acc ++ [e]) (wipeS p.2 vs) else .stuck
  | _ => .stuck
def cD3 (fe : FE) (k : List D → List Sl → Ro (List D × List Sl)) (acc : List D) (vs : List Nat) (b : Bool × List Sl) : Ro (List D × List Sl) := if b.1 = true then ((ffrz fe b.2).nox.bind (cD2 k acc vs)) else k acc (wipeS b.2 vs)
def cD1 (ft : FT) (fe : FE) (k : List D → List Sl → Ro (List D × List Sl)) (acc : List D) (vs : List Nat) : So → Ro (List D × List Sl)
  | .nx s1 => (ft s1).nox.bind (cD3 fe k acc vs)
  | _ => .stuck
theorem e_cD1 {g : FG} {ft : FT} {fe : FE} {vs : List Nat} {acc ds : List D} : compD g ft fe vs (d :: ds) acc ss = cD1 ft fe (compD g ft fe vs ds) acc vs (g (.fz d) ss) := by
  rw [compD]
  unfold cD1 cD3 cD2
  cases g (.fz d) ss <;> rfl
theorem e_cDn {ft : FT} {fe : FE} {k : List D → List Sl → Ro (List D × List Sl)} {vs : List Nat} {acc : List D} : cD1 ft fe k acc vs (.nx ss) = (ft ss).nox.bind (cD3 fe k acc vs) := rfl
theorem e_cD3 {fe : FE} {k : List D → List Sl → Ro (List D × List Sl)} {vs : List Nat} {acc : List D} {b : Bool} : cD3 fe k acc vs (b, ss) = if b = true then ((ffrz fe ss).nox.bind (cD2 k acc vs)) else k acc (wipeS ss vs) := rfl
theorem e_cD2 {k : List D → List Sl → Ro (List D × List Sl)} {vs : List Nat} {acc : List D} : cD2 k acc vs (.fz d, ss) = if acc.length < sizeLine then k (acc ++ [d]) (wipeS ss vs) else .stuck := rfl
theorem e_nox : (Ro.ok a).nox = .ok a := rfl
theorem e_wi0 : wipeS ss [] = ss := rfl
theorem e_wi1 {v : Nat} {vs : List Nat} : wipeS ss (v :: vs) = setS v .un (wipeS ss vs) := rfl
theorem e_rs0 {s0 : List Sl} : restS s0 ss [] = ss := rfl
theorem e_rs1 {s0 : List Sl} {v : Nat} {vs : List Nat} : restS s0 ss (v :: vs) = setS v ((s0[v]?).getD .un) (restS s0 ss vs) := rfl
def okW1 : Option Sl → Bool
  | some .un => true
  | some (.fz _) => true
  | _ => false
theorem e_okW {vs : List Nat} : okW n vs ss = (decide (ss.length = n) && vs.all fun v => okW1 ss[v]?) := by unfold okW okW1; rfl
theorem e_okWu : okW1 (some .un) = true := rfl
theorem e_okWf : okW1 (some (.fz d)) = true := rfl
/-! defs -/
theorem e_body {f : FS} : body n np kp f as = if as.length = np then finO kp np (f (as ++ List.replicate (n - np) .un)) else .stuck := rfl
theorem e_fin : finO kp np (.nx ss) = if np ≤ ss.length then .ret (.fz .non) (outs kp 0 (ss.take np)) else .stuck := rfl
theorem e_fir : finO kp np (.rt r ss) = if np ≤ ss.length then finR kp np r ss else .stuck := rfl
theorem e_fie : finO kp np (.exc c fs ss) = if np ≤ ss.length then .exc c fs (outs kp 0 (ss.take np)) else .stuck := rfl
theorem e_fis : finO kp np .stuck = .stuck := rfl
theorem e_frf : finR kp np (.fz d) ss = .ret (.fz d) (outs kp 0 (ss.take np)) := rfl
theorem e_fro : finR kp np (.ow t d) ss = .ret (.ow t d) (outs kp 0 (ss.take np)) := rfl
def fi1 (kp : List Nat) (np i : Nat) (ss : List Sl) : Option Sl → Fo
  | some (.fz d) => .ret (.fz d) (outs kp 0 (ss.take np))
  | some (.ow t d) => .ret (.ow t d) (outs kp 0 ((ss.set i .un).take np))
  | _ => .stuck
theorem e_fra : finR kp np (.al i) ss = if i < np ∧ i ∈ kp then .ret (.al i) (outs kp 0 (ss.take np)) else fi1 kp np i ss ss[i]? := by unfold finR fi1; rfl
theorem e_fif : fi1 kp np i ss (some (.fz d)) = .ret (.fz d) (outs kp 0 (ss.take np)) := rfl
theorem e_fio : fi1 kp np i ss (some (.ow t d)) = .ret (.ow t d) (outs kp 0 ((ss.set i .un).take np)) := rfl
theorem e_ou0 : outs kp i [] = [] := rfl
theorem e_ou1 : outs kp i (r :: rs) = r.out (decide (i ∈ kp)) :: outs kp (i + 1) rs := rfl
theorem e_ouf : (Sl.fz d).out true = .fz d := rfl
theorem e_ouo : (Sl.ow t d).out true = .ow t d := rfl
theorem e_ouu : Sl.un.out true = .un := rfl
theorem e_oua {b : Bool} : (Sl.al i).out b = .un := rfl
theorem e_oug : r.out false = .un := by cases r <;> rfl
end
end Mi
namespace Mi
open PySem PySem.Spec PyProof.Rows L2 Rt
noncomputable def cWh (ft : FT) (f : FS) (p : Bool × List Sl) : So := if p.1 = true then (f p.2).loop (fWhile ft f) else .nx p.2
theorem e_while {ft : FT} {f : FS} {ss : List Sl} : fWhile ft f ss = (ft ss).so (cWh ft f) := fWhile_eq ft f ss
theorem e_cwh {ft : FT} {f : FS} {ss : List Sl} {b : Bool} : cWh ft f (b, ss) = if b = true then (f ss).loop (fWhile ft f) else .nx ss := rfl
/-- a walk whose turns all go on -/
theorem for_go {g : FG} {f : FS} (I : Nat → List Sl → Prop) : ∀ {ds : List D} {k : Nat} {ss : List Sl}, I k ss → (∀ i d ss, ds[i]? = some d → I (k + i) ss → ∃ s1 s', g (.fz d) ss = .nx s1 ∧ (f s1 = .nx s' ∨ f s1 = .ct s') ∧ I (k + i + 1) s') →
    ∃ s', forD g f ds ss = .nx s' ∧ I (k + ds.length) s'
  | [], _, ss, h, _ => ⟨ss, rfl, h⟩
  | d :: ds, k, ss, h, st => by
    obtain ⟨s1, s', h1, h2, h3⟩ := st 0 d ss rfl h
    have e : forD g f (d :: ds) ss = forD g f ds s' := by
      rw [e_for1, h1]
      show (f s1).loop _ = _
      rcases h2 with h2 | h2 <;> rw [h2] <;> rfl
    obtain ⟨s2, h4, h5⟩ := for_go (g := g) (f := f) I (ds := ds) (k := k + 1) (ss := s') h3 (fun i d ss q z => by
      have := st (i + 1) d ss (by simpa using q) (by rw [← Nat.add_assoc, Nat.add_right_comm]; exact z)
      rw [← Nat.add_assoc, Nat.add_right_comm k i 1] at this
      exact this)
    refine ⟨s2, e.trans h4, ?_⟩
    rw [List.length_cons, ← Nat.add_assoc, Nat.add_right_comm]
    exact h5
theorem for_range {g : FG} {f : FS} (I : Nat → List Sl → Prop) {lo : Int} {n : Nat} {ss : List Sl} (h : I 0 ss) (st : ∀ i ss, i < n → I i ss → ∃ s1 s', g (.fz (.int (lo + (i : Nat)))) ss = .nx s1 ∧ (f s1 = .nx s' ∨ f s1 = .ct s') ∧ I (i + 1) s') :
    ∃ s', forD g f (rangeD lo n) ss = .nx s' ∧ I n s' := by
  obtain ⟨s', h1, h2⟩ := for_go (g := g) (f := f) I (ds := rangeD lo n) (k := 0) (ss := ss) h (fun i d ss q z => by
    have hi : i < n := by
      have := (List.getElem?_eq_some_iff.mp q).1
      rwa [rangeD_len] at this
    rw [rangeD_get q]
    rw [Nat.zero_add] at z ⊢
    exact st i ss hi z)
  rw [rangeD_len, Nat.zero_add] at h2
  exact ⟨s', h1, h2⟩
end Mi
namespace Mi
open PySem PySem.Spec PyProof.Rows L2 Rt
theorem ofString_inj {a b : String} (h : Str.ofString a = Str.ofString b) : a = b := by
  rw [Str.ofString_eq_toList, Str.ofString_eq_toList] at h
  have h1 : a.toList.map Char.toNat = b.toList.map Char.toNat := by
    have := congrArg (fun x : Str => x.cps.toList) h
    simpa using this
  have go : ∀ xs ys : List Char, xs.map Char.toNat = ys.map Char.toNat → xs = ys := by
    intro xs
    induction xs with
    | nil => intro ys e; cases ys with
      | nil => rfl
      | cons => cases e
    | cons x xs ih => intro ys e; cases ys with
      | nil => cases e
      | cons y ys =>
        simp only [List.map_cons, List.cons.injEq] at e
        have : x.val = y.val := UInt32.toNat_inj.mp e.1
        rw [Char.ext this, ih ys e.2]
  have h2 := go _ _ h1
  exact String.toList_inj.mp h2
theorem str_eq {a b : String} : (Str.ofString a = Str.ofString b) = (a = b) := propext ⟨ofString_inj, fun h => by rw [h]⟩
theorem str_beq {a b : String} : (Str.ofString a == Str.ofString b) = (a == b) := by
  by_cases h : a = b
  · subst h; simp
  · have h1 : (a == b) = false := by simpa using h
    have h2 : Str.ofString a ≠ Str.ofString b := fun z => h (ofString_inj z)
    rw [h1]
    simpa using h2
theorem e_getK0 {κ α : Type} [DecidableEq κ] {k : κ} : getK ([] : List (κ × α)) k = none := rfl
theorem e_getK1 {κ α : Type} [DecidableEq κ] {k k' : κ} {v : α} {r : List (κ × α)} : getK ((k', v) :: r) k = if k' = k then some v else getK r k := by
  unfold getK
  rw [List.find?_cons]
  by_cases h : k' = k
  · simp [h]
  · simp [h]
theorem e_putD {κ α : Type} [DecidableEq κ] {k : κ} {v : α} {r : List (κ × α)} : putD r k v = if (r.any fun kv => decide (kv.1 = k)) = true then r.map (fun kv => if kv.1 = k then (kv.1, v) else kv) else r ++ [(k, v)] := rfl
theorem e_atI0 {α : Type} {x : α} {r : List α} : atI (x :: r) 0 = some x := atI_nat (j := 0) rfl
theorem e_atI1 {α : Type} {x y : α} {r : List α} : atI (x :: y :: r) 1 = some y := atI_nat (j := 1) rfl
theorem e_atI2 {α : Type} {x y z : α} {r : List α} : atI (x :: y :: z :: r) 2 = some z := atI_nat (j := 2) rfl
theorem e_atI3 {α : Type} {x y z w : α} {r : List α} : atI (x :: y :: z :: w :: r) 3 = some w := atI_nat (j := 3) rfl
theorem gcd_turn {x m : Nat} {g : Nat} (hg : Nat.gcd x m = g) : Nat.gcd m (x % m) = g := by
  rw [← hg, Nat.gcd_comm x m, Nat.gcd_rec m x, Nat.gcd_comm]
theorem fmod_nat (x m : Nat) : ((x : Int).fmod (m : Int)) = ((x % m : Nat) : Int) := by
  rw [Int.fmod_eq_emod_of_nonneg _ (by omega)]
  rfl
end Mi

/-! M21: own errors over any of Python's own: made, raised, caught. -/
namespace Mi
open PySem PySem.Spec PyProof.Rows L2 Rt
/-- one of Python's errors, as what stands above an own one -/
structure XBase (T nw ini : String) (tl : List Value) : Prop where
  base : ExcBaseFacts T nw ini tl
  store : StoreFacts T tl "object.__setattr__" "object"
theorem xb_Type : XBase "TypeError" "TypeError.__new__" "TypeError.__init__" [.type "TypeError", .type "Exception", .type "BaseException", .type "object"] := ⟨PySem.F.excBase_TypeError, PySem.F.store_TypeError⟩
theorem xb_Zero : XBase "ZeroDivisionError" "ZeroDivisionError.__new__" "ZeroDivisionError.__init__" [.type "ZeroDivisionError", .type "ArithmeticError", .type "Exception", .type "BaseException", .type "object"] := ⟨PySem.F.excBase_ZeroDivisionError, PySem.F.store_ZeroDivisionError⟩
theorem xb_Arith : XBase "ArithmeticError" "ArithmeticError.__new__" "ArithmeticError.__init__" [.type "ArithmeticError", .type "Exception", .type "BaseException", .type "object"] := ⟨PySem.F.excBase_ArithmeticError, PySem.F.store_ArithmeticError⟩
theorem xb_Lookup : XBase "LookupError" "LookupError.__new__" "LookupError.__init__" [.type "LookupError", .type "Exception", .type "BaseException", .type "object"] := ⟨PySem.F.excBase_LookupError, PySem.F.store_LookupError⟩
theorem xb_Index : XBase "IndexError" "IndexError.__new__" "IndexError.__init__" [.type "IndexError", .type "LookupError", .type "Exception", .type "BaseException", .type "object"] := ⟨PySem.F.excBase_IndexError, PySem.F.store_IndexError⟩
theorem xb_Over : XBase "OverflowError" "OverflowError.__new__" "OverflowError.__init__" [.type "OverflowError", .type "ArithmeticError", .type "Exception", .type "BaseException", .type "object"] := ⟨PySem.F.excBase_OverflowError, PySem.F.store_OverflowError⟩
theorem xb_Runtime : XBase "RuntimeError" "RuntimeError.__new__" "RuntimeError.__init__" [.type "RuntimeError", .type "Exception", .type "BaseException", .type "object"] := ⟨PySem.F.excBase_RuntimeError, PySem.F.store_RuntimeError⟩
theorem xb_NotImpl : XBase "NotImplementedError" "NotImplementedError.__new__" "NotImplementedError.__init__" [.type "NotImplementedError", .type "RuntimeError", .type "Exception", .type "BaseException", .type "object"] := ⟨PySem.F.excBase_NotImplementedError, PySem.F.store_NotImplementedError⟩
theorem xb_Value : XBase "ValueError" "ValueError.__new__" "ValueError.__init__" [.type "ValueError", .type "Exception", .type "BaseException", .type "object"] := ⟨PySem.F.excBase_ValueError, PySem.F.store_ValueError⟩
theorem xb_Exc : XBase "Exception" "Exception.__new__" "Exception.__init__" [.type "Exception", .type "BaseException", .type "object"] := ⟨PySem.F.excBase_Exception, PySem.F.store_Exception⟩
/-- an own error's class: what the written part says of it -/
structure XCls (K : PySem.W.Frag) (nw : String) (tl : List Value) (C : Addr) : Prop where
  ini : PySem.W.excInitIn K C tl nw = true
  ov : PySem.W.excOver K C tl = true
  hd : PySem.W.hasDictIn K C = true
  sa : PySem.W.findIn K (.ref C) "__setattr__" = some (some (.builtin "object.__setattr__"))
  exC : PySem.W.subIn K (.ref C) (.type "BaseException") = some true
  tyC : PySem.W.typeIn K (.ref C) = some (.type "type")
  kC : PySem.W.keepIn K (.ref C) = true
def xclsB (K : PySem.W.Frag) (nw : String) (tl : List Value) (C : Addr) : Bool := PySem.W.excInitIn K C tl nw && (PySem.W.excOver K C tl && (PySem.W.hasDictIn K C && (decide (PySem.W.findIn K (.ref C) "__setattr__" = some (some (.builtin "object.__setattr__"))) &&
  (decide (PySem.W.subIn K (.ref C) (.type "BaseException") = some true) && (decide (PySem.W.typeIn K (.ref C) = some (.type "type")) && PySem.W.keepIn K (.ref C))))))
theorem xcls_of {K : PySem.W.Frag} {nw : String} {tl : List Value} {C : Addr} (h : xclsB K nw tl C = true) : XCls K nw tl C := by
  unfold xclsB at h
  simp only [Bool.and_eq_true, decide_eq_true_eq] at h
  obtain ⟨h1, h2, h3, h4, h5, h6, h7⟩ := h
  exact ⟨h1, h2, h3, h4, h5, h6, h7⟩
section
variable {X : Cx} {pins : List (Addr × Obj)} {σ : L2.St} {H : Hp} {s : Shared} {a C : Addr} {f : Str} {y : V} {u : Value} {E : Value → Shared → Prop} {A : Around} {T nw ini : String} {tl : List Value}
/-- an error's first field, by the object's own rule -/
theorem first_field {prog : Program} {w : World} {R : Result → Shared → Prop} {hp : Heap} {g : Array GenState} {dr : Drawn} {t : Nat} {os : OsState} {K : PySem.W.Frag} {name : Str} {tk : Tok} {v : Value} {x t1 : Addr} (B : XBase T nw ini tl) (O : XCls K nw tl C) (kin : K.In hp)
    (hx : hp.get? x = some (PySem.HandSPX.excO C t1)) (no : PySem.W.takerIn K C name = some none)
    (k : ∀ h' tk', (∀ b o, b ≠ x → hp.get? b = some o → h'.get? b = some o) → x ≠ hp.objs.size → h'.get? x = some { cls := .ref C, dict := some hp.objs.size, data := .fields #[.ref t1, .none, .none, .none, .bool false, .none] } →
      h'.Ns1 hp.objs.size (fun z => if z = name then some v else none) → R (.ok (.ret .none)) ⟨h', g, dr, tk', os⟩) :
    codeAny (model prog w) A (.call (.builtin "object.__setattr__") ⟨[.ref x, .str name tk, v], []⟩) R ⟨hp, g, dr, t, os⟩ := by
  refine PySem.W.osa_openX (od := none) B.store kin ⟨hx, rfl, rfl, trivial⟩ O.ov no fun _ => ?_
  obtain ⟨cd, hc, hd⟩ := PySem.W.any_some O.hd
  have lk := PySem.W.looks_clsIn (M := model prog w) kin hc
  have nx : x ≠ hp.objs.size := Nat.ne_of_lt (Heap.lt_size hx)
  have hx1 : (hp.push (PySem.W.dictOf [] 0)).get? x = some (PySem.HandSPX.excO C t1) := Heap.get?_push_of_some _ hx
  refine wpAny_bind (wpAny_pure (wpAny_bind (PySem.W.instanceDict_exc hx lk hd ?_)))
  refine PySem.HandSPX.store_in_new ?_ fun h' tk' hn hs => k h' tk' (fun b o nb hb => ?_) nx ?_ hn
  · exact ⟨_, #[], _, (Heap.get?_update_ne _ _ _ _ nx.symm).trans (Heap.get?_push_at rfl rfl), rfl, fun e he => absurd he (by simp), fun _ => rfl⟩
  · have nz : b ≠ hp.objs.size := Nat.ne_of_lt (Heap.lt_size hb)
    rw [hs.2 b nz, Heap.get?_update_ne _ _ _ _ nb]
    exact Heap.get?_push_of_some _ hb
  · rw [hs.2 x nx]
    exact Heap.get?_update_self _ hx1 rfl
end
end Mi

/-! M22: own errors: the three steps of making one. -/
namespace Mi
open PySem PySem.Spec PyProof.Rows L2 Rt
section
variable {X : Cx} {pins : List (Addr × Obj)} {σ : L2.St} {H : Hp} {s : Shared} {a C : Addr} {f : Str} {y : V} {u : Value} {A : Around} {T nw ini : String} {tl : List Value}
theorem XCls.at_ {K : PySem.W.Frag} {h : Heap} (O : XCls K nw tl C) (k : K.In h) : ∃ nm N qn bs bm hdct sn sub ab col dd k0 k1 k2 k3 k5, h.get? C = some (excClassObj nm qn C N bs bm hdct sn sub ab col dd k0 k1 k2 k3 k5 nw) ∧ ∀ Y : String, bm.contains (.type Y) = tl.contains (.type Y) :=
  PySem.W.excInit_of k O.ini
/-- self.f = y, on an error without fields -/
theorem put_field {Q : Unit → Shared → Prop} {E : Value → Shared → Prop} (B : XBase T nw ini tl) (O : XCls X.K nw tl C) (I : Inv X pins σ H s) (e : H a = some (exo a C none)) (no : PySem.W.takerIn X.K C f = some none) (r : RelV y u)
    (k : ∀ dx s', H dx = none → dx ≠ a → Inv X pins σ (upd (upd H dx (exd dx [(f, y)])) a (exo a C (some dx))) s' → Q () s') : wpAny (model X.prog X.w) A (setAttr (.ref a) f u) Q E s := by
  obtain ⟨t1, ho⟩ := exo_at I.hok e
  obtain ⟨hp, g, dr, tk, os⟩ := s
  refine PySem.W.set_plain I.kIn (od := none) ⟨ho, rfl, rfl, trivial⟩ O.sa ?_
  refine first_field B O I.kIn ho no fun h' tk' kp na hx hn => ?_
  have new : H hp.objs.size = none := I.hok.fresh (Nat.le_refl _)
  have old : ∀ {b : Addr} {o : Obj}, hp.get? b = some o → b ≠ hp.objs.size := fun q => Nat.ne_of_lt (Heap.lt_size q)
  have nn : ∀ {b : Addr}, H b = none → b ≠ a := fun n z => by subst z; rw [e] at n; cases n
  have tr : ∀ {b : Addr} {o : HO}, o ≠ exo a C none → H b = some o → (upd (upd H hp.objs.size (exd hp.objs.size [(f, y)])) a (exo a C (some hp.objs.size))) b = some o := fun {b o} d q => by
    have : b ≠ a := fun z => by subst z; rw [e] at q; exact d (Option.some.inj q).symm
    rw [upd_ne this, upd_ne (ne_of_none q new)]; exact q
  refine k hp.objs.size _ new na.symm (I.un (t' := tk') ?_ fun b o q => ?_)
  · constructor
    · exact fun b o q n _ _ => kp b o (nn n) q
    · exact fun b o q n _ _ => ⟨o.slots, kp b o (nn n) q⟩
    · exact fun b o q n _ => by rw [upd_ne (nn n), upd_ne (old q)]; exact n
    · intro b o q _
      by_cases z : b = a
      · subst z; exact ⟨_, hx⟩
      · exact ⟨o, kp b o z q⟩
    · exact fun b xs q => tr (fun z => exo_tup z.symm) q
    · exact fun b o v q => tr (fun z => exo_frz z.symm) q
    · exact fun b ps q => ⟨#[], by rw [tr (fun z => exo_tbl z.symm) q]; simp⟩
  · by_cases z : b = a
    · subst z
      rw [upd_same] at q; cases q
      exact exo_ok hx
    · rw [upd_ne z] at q
      by_cases zd : b = hp.objs.size
      · subst zd
        rw [upd_same] at q; cases q
        exact exd_ok hn (relO_put (fs := []) r fun _ => True.intro)
      · rw [upd_ne zd] at q
        refine (I.hok b o q).stay (fun c v hc w => kp c v ?_ w) (fun c hc => tr (fun z => exo_own z.symm) hc) (fun c xs hc => tr (fun z => exo_tup z.symm) hc)
        rcases hc with hc | hc
        · rw [hc]; exact z
        · exact at_ne e hc exo_own
/-- T.__init__(self, ..) on an error without fields: nothing of it is told -/
theorem base_init {us : List Value} {Q : Value → Shared → Prop} {E : Value → Shared → Prop} (B : XBase T nw ini tl) (O : XCls X.K nw tl C) (I : Inv X pins σ H s) (e : H a = some (exo a C none)) (hl : us.length ≤ sizeLine) (k : ∀ s', Inv X pins σ H s' → Q .none s') :
    wpAny (model X.prog X.w) A (call (.builtin ini) (.ref a :: us)) Q E s := by
  obtain ⟨nm, N, qn, bs, bm, hdct, sn, sub, ab, col, dd, k0, k1, k2, k3, k5, hC, hT⟩ := O.at_ I.kIn
  obtain ⟨t1, ho⟩ := exo_at I.hok e
  obtain ⟨hp, g, dr, tk, os⟩ := s
  refine wpAny_call (PySem.HandSPX.init_base B.base hT hC ho hl fun h' t2 kp hx => ?_)
  have J := I.write (t' := tk) (x := a) (e := a) (o := exo a C none) (by rw [e]; trivial) (.inl rfl) kp ⟨_, hx⟩ (exo_ok hx)
  have eu : upd H a (exo a C none) = H := funext fun b => by
    by_cases z : b = a
    · subst z; rw [upd_same, e]
    · rw [upd_ne z]
  exact k _ (eu ▸ J)
end
section
variable {X : Cx} {T nw ini : String} {tl : List Value} {o e : Expr} {es : List Expr} {te to : TE} {ta : TA} {f x : Str} {p p' p1 p2 pos : Pos}
/-- T.__init__(self, ..) -/
def tIni (K : PySem.W.Frag) (nw : String) (tl : List Value) (ta : TA) : TE := fun σ H Q => ta σ H fun vs H1 => ∃ (a C : Addr) (ws : List V), vs = .ref a :: ws ∧ ws.length ≤ 1000 ∧ XCls K nw tl C ∧ H1 a = some (exo a C none) ∧ Q .non H1
theorem pe_ini {pl : Sem Bool} (B : XBase T nw ini tl) (hg : Gl X x) (hm : X.mg x = none) (hb : bootBuiltins x = some (.type T)) (hn : x ≠ "__name__") (hdb : (x == ("__debug__" : Str)) = false) (ty : typeOf (.type T) = pure (.type "type")) (stub : Manifest.isStub T = false)
    (vV : PySem.W.findCls X.K (.type T) (.type "type") "__init__" = some (.val (.builtin ini))) (hh : PySem.W.handedIn (.builtin ini) = true) (ha : PA X (e :: es) ta)
    (hc : eval (.Call (.Attribute (.Name x p1) "__init__" p2) (e :: es) [] pos) X.env = (do
      let ov ← eval (.Name x p1) X.env
      standAt p2.atName
      let (f, first) ← holding [ov] (getMethod ov "__init__" pl)
      callWith pos f first (backTo pos (starEach (e :: es) X.env)) (backToKw pos (keywordEach [] X.env))) := by rfl)
    (he : starEach (e :: es) X.env = (false, eval e X.env) :: starEach es X.env := by rfl) (hpl : (backTo pos (starEach es X.env)).any (·.1) = false := by rfl) :
    PE X (.Call (.Attribute (.Name x p1) "__init__" p2) (e :: es) [] pos) (tIni X.K nw tl ta) := by
  refine ⟨fun pins s σ H Q I h => PySem.W.methodCall_KW (ld_blt I hg hm hb ?_ hn hdb) hc⟩
  obtain ⟨m, fr⟩ := I.fr
  refine PySem.W.method_type fr I.ok.mod.kin ty stub vV hh ?_
  show wpAny _ _ (callWith pos (Value.builtin ini) [] (backTo pos (starEach (e :: es) X.env)) []) _ _ _
  refine PyProof.Rows.callWith_method1 (thn (ha.run pos pins _ σ H _ (I.tok _) h) fun us s1 hs => ?_) he hpl
  obtain ⟨vs, H1, I1, r1, a, C, ws, ev, hl, O, ea, q⟩ := hs
  subst ev
  cases r1 with
  | @cons _ u0 _ ur ra rw' =>
    obtain rfl : u0 = Value.ref a := ra
    exact base_init B O I1 ea (by rw [← Paired.length rw', sizeLine_eq]; omega) fun s' J => ⟨.non, H1, J, rfl, q⟩
/-- self.f = e -/
def tPut (K : PySem.W.Frag) (nw : String) (tl : List Value) (f : Str) (to te : TE) : TS := fun D σ H => te σ H fun y H1 => to σ H1 fun x H2 => ∃ a C : Addr, x = .ref a ∧ XCls K nw tl C ∧ PySem.W.takerIn K C f = some none ∧
  H2 a = some (exo a C none) ∧ ∀ dx, H2 dx = none → dx ≠ a → D.nx σ (upd (upd H2 dx (exd dx [(f, y)])) a (exo a C (some dx)))
theorem ps_put (B : XBase T nw ini tl) (ho : PE X o to) (he : PE X e te) (hs : swapsWith e (some (.Attribute o f p')) pos.line X.env = pure false := by rfl) : PS X (.Assign [.Attribute o f p'] e pos) (tPut X.K nw tl f to te) := by
  refine ⟨fun pins s σ H D I h => plainObj_wpAny_Assign_Attribute (thn (he.run pins s σ H _ I h) fun v s1 h1 => ?_) hs⟩
  obtain ⟨y, H1, I1, r1, q1⟩ := h1
  refine thn (ho.run pins s1 σ H1 _ I1 q1) fun u s2 h2 => ?_
  obtain ⟨x, H2, I2, r2, a, C, ex, O, no, ea, q⟩ := h2
  subst ex
  obtain rfl : u = Value.ref a := r2
  exact put_field B O I2 ea no r1 fun dx s' n ne J => ⟨σ, _, J, q dx n ne⟩
/-- what the __init__ of an own error with the one field f does -/
def spIni (K : PySem.W.Frag) (nw : String) (tl : List Value) (C : Addr) (f : Str) : Sp := fun vs H Q _ => ∃ (a : Addr) (y : V), vs = [.ref a, y] ∧ XCls K nw tl C ∧ PySem.W.takerIn K C f = some none ∧ H a = some (exo a C none) ∧
  ∀ dx, H dx = none → dx ≠ a → Q .non (upd (upd H dx (exd dx [(f, y)])) a (exo a C (some dx)))
theorem len_ini {K : PySem.W.Frag} {C : Addr} {vs : List V} {H : Hp} {Q : VK} {E : XK} (h : spIni K nw tl C f vs H Q E) : vs.length = 2 := by
  obtain ⟨_, _, rfl, _⟩ := h
  rfl
/-- the usual body -/
theorem ini_body {K : PySem.W.Frag} {C : Addr} {vs : List V} {H : Hp} {Q : VK} {E : XK} {N : List Str} {m : Str} (hN : N.length = 2) (h : spIni K nw tl C f vs H Q E) :
    tSeq (tDrop (tIni K nw tl (tCons (tVar 0) (tCons (tC (.str m)) tNil)))) (tSeq (tPut K nw tl f (tVar 0) (tVar 1)) tNext) { nx := fun _ H' => Q .non H', rt := Q } (L2.start N vs) H := by
  obtain ⟨a, y, rfl, O, no, e, k⟩ := h
  have es : L2.start N [V.ref a, y] = [some (.ref a), some y] := by
    unfold L2.start
    rw [hN]
    rfl
  rw [es]
  refine ⟨.ref a, rfl, ?_⟩
  refine ⟨a, C, [.str m], rfl, by simp, O, e, ?_⟩
  refine ⟨y, rfl, ⟨.ref a, rfl, ?_⟩⟩
  exact ⟨a, C, rfl, O, no, e, fun dx n ne => k dx n ne⟩
end
end Mi

/-! M23: own errors: made by their class, raised. -/
namespace Mi
open PySem PySem.Spec PyProof.Rows L2 Rt
section
variable {X : Cx} {T nw ini : String} {tl : List Value} {e : Expr} {es : List Expr} {ta : TA} {f x : Str} {p pos : Pos} {C fI : Addr} {k : Nat} {fd : FuncData} {ps : List Str}
def tMkX (C : Addr) (f : Str) (ta : TA) : L2.St → Hp → XK → Prop := fun σ H Q => ta σ H fun vs H1 => ∃ y, vs = [y] ∧ ∀ d, H1 d = none → Q (.ref C) (some d) (upd H1 d (.xd [(f, y)]))
theorem pmk_x {CX : CXT} (B : XBase T nw ini tl) (O : XCls X.K nw tl C) (no : PySem.W.takerIn X.K C f = some none) (iC : PySem.W.findIn X.K (.ref C) "__init__" = some (some (.ref fI))) (tI : PySem.W.typeIn X.K (.ref fI) = some (.type "function"))
    (F1 : FnOk X.prog X.w X.K X.mg X.base CX k fI fd ps (spIni X.K nw tl C f)) (hr : Room (k + 1) X.A) (hb : Binds X.K fd ps []) (hx : Passes CX X (fun _ _ _ => False)) (hg : Gl X x) (hm : X.mg x = some (.ref C)) (ha : PA X (e :: es) ta)
    (hdb : (x == ("__debug__" : Str)) = false := by decide) (he : starEach (e :: es) X.env = (false, eval e X.env) :: starEach es X.env := by rfl) (hpl : (backTo pos (starEach es X.env)).any (·.1) = false := by rfl) :
    PMk X (.Call (.Name x p) (e :: es) [] pos) (tMkX C f ta) := by
  intro pins s σ H Q I h
  refine wpAny_Call_Name_kw (ld_glob I hg hm ?_ hdb)
  refine PySem.W.callWith_K (h₀ := X.base) I.ok.mod.kin O.kC (thn (ha.run pos pins s σ H _ I h) fun us s1 hs => ?_) he hpl
  obtain ⟨vs, H1, I1, r1, y, ev, q⟩ := hs
  subst ev
  refine ⟨I1.kIn, ?_⟩
  show wpAny _ _ (call (.ref C) us) _ _ _
  obtain ⟨hp, g, dr, tk, os⟩ := s1
  obtain ⟨nm, N, qn, bs, bm, hdct, sn, sub, ab, col, dd, k0, k1, k2, k3, k5, hC, hT⟩ := O.at_ I1.kIn
  have lus : us.length = 1 := (Paired.length r1).symm
  -- where the new one comes to lie
  generalize ea : hp.objs.size + 1 = a
  have far : hp.objs.size ≤ a := by omega
  have none1 : H1 a = none := I1.hok.fresh far
  let hp2 := (hp.push (PySem.W.kdv_tup us)).push (PySem.HandSPX.excO C hp.objs.size)
  have grow : ∀ b o, hp.get? b = some o → hp2.get? b = some o := fun b o z => Heap.get?_push_of_some _ (Heap.get?_push_of_some _ z)
  have there : hp2.get? a = some (PySem.HandSPX.excO C hp.objs.size) := by
    subst ea
    show ((hp.push (PySem.W.kdv_tup us)).push (PySem.HandSPX.excO C hp.objs.size)).get? (hp.objs.size + 1) = _
    heap_get
  have I2 : Inv X pins σ (upd H1 a (exo a C none)) ⟨hp2, g, dr, tk, os⟩ := I1.laid (t' := tk) (a := a) (o := exo a C none) (h' := hp2) grow far (exo_ok there)
  have sp : spIni X.K nw tl C f [.ref a, y] (upd H1 a (exo a C none)) (fun v H2 => v = .non ∧ ∃ d, H1 d = none ∧ H2 a = some (exo a C (some d)) ∧ H2 d = some (exd d [(f, y)]) ∧ Q (.ref C) (some d) (upd (del H2 a) d (.xd [(f, y)]))) (fun _ _ _ => False) := by
    refine ⟨a, y, rfl, O, no, upd_same, fun dx n ne => ⟨rfl, dx, ?_, upd_same, ?_, ?_⟩⟩
    · rw [upd_ne ne] at n; exact n
    · rw [upd_ne ne, upd_same]
    · rw [upd_ne ne] at n
      have same : upd (del (upd (upd (upd H1 a (exo a C none)) dx (exd dx [(f, y)])) a (exo a C (some dx))) a) dx (.xd [(f, y)]) = upd H1 dx (.xd [(f, y)]) := funext fun b => by
        by_cases zd : b = dx
        · subst zd; rw [upd_same, upd_same]
        · rw [upd_ne zd, upd_ne zd]
          by_cases za : b = a
          · subst za; rw [del_same, none1]
          · rw [del_ne za, upd_ne za, upd_ne zd, upd_ne za]
      rw [same]
      exact q dx n
  have r2 : Vals [V.ref a, y] (Value.ref a :: us) := .cons rfl r1
  have len2 : (Value.ref a :: us).length = ps.length := by rw [← F1.len _ _ _ _ sp]; simp [lus]
  have bnd := hb ⟨hp2, g, dr, tk, os⟩ (Value.ref a :: us) I2.kIn (by rw [List.append_nil]; exact len2)
  rw [List.append_nil] at bnd
  subst ea
  refine wpAny_call (PySem.HandSPX.call_own B.base hT hC (PySem.W.looks_findIn I1.kIn iC) (fun self => PySem.W.bind_fn I1.kIn self tI) (by rw [lus, sizeLine_eq]; omega) (codeAny_mono (F1.run _ X.stack _ _ ⟨Value.ref (hp.objs.size + 1) :: us, []⟩ (Value.ref (hp.objs.size + 1) :: us) _ _ (fun _ _ _ => False)
    (hr.make C us []) (I2.env0.make C us []) bnd r2 sp) fun r s' z => ?_))
  cases r with
  | error er => exact hx pins σ _ _ er s' I2 z
  | ok fl =>
    cases fl with
    | ret u =>
      obtain ⟨v, H2, os2, bare2, un2, hok2, rv, ev, d, hd1, ea2, ed2, q2⟩ := z
      subst ev
      obtain ⟨h2, g2, d2, t2, os'⟩ := s'
      exact ⟨rv, mk_end (raises_own O.exC O.tyC) I1 far grow un2 hok2 os2 bare2 ea2 ed2 hd1 q2⟩
    | next => exact False.elim z
    | brk => exact False.elim z
    | cont => exact False.elim z
end
/-! ### raise C(e) -/
def kraise (c f : Str) (r : Sl) (ss : List Sl) : So := match frzL [r] with
  | some [d] => .exc c [(f, d)] ss
  | _ => .stuck
def fRaise (c f : Str) (fe : FE) : FS := fun ss => (fe ss).so fun p => kraise c f p.1 p.2
section
variable {K : PySem.W.Frag} {E : EW} {kp : List Nat} {σ : L2.St} {H : Hp} {D : Ends}
/-- something new that is nobody's -/
theorem Sat.laid {Z : Hp} {es ts : List Ent} {p : Addr} {o : HO} (s : Sat K Z H es ts) (n : H p = none) : Sat K Z (upd H p o) es ts ∧ Step Z H (fpsOf (es ++ ts)) Z (upd H p o) (fpsOf (es ++ ts)) := by
  have w : New K Z H Z (upd H p o) .non (.fz .non) [] := ⟨⟨fun a u e _ => by rw [upd_ne (ne_of_none e n)]; exact e, fun a m => (by cases m), Le.refl _, fun _ _ e => .inl e⟩, s.sub.upd n, ⟨.non, rfl, .leaf .non, rfl⟩, by simp, fun a m => by cases m⟩
  obtain ⟨s1, st⟩ := s.new w
  exact ⟨s1.drop, st.less fun a m => by rw [← List.append_assoc]; exact fps_app.mpr (.inl m)⟩
theorem rs_raise {c f : Str} {fe : FE} (h : RS K E kp (fRaise c f fe) D σ H) : tMkX (He.ga K c) f (tCons (RE K E fe) tNil) σ H fun cls d H' => E σ cls d H' := by
  obtain ⟨Z, es, s, hv, k⟩ := h
  show RE K E fe σ H fun v H1 => tNil σ H1 fun vs H2 => ∃ y, v :: vs = [y] ∧ ∀ d, H2 d = none → E σ (.ref (He.ga K c)) (some d) (upd H2 d (.xd [(f, y)]))
  refine RE.so (ts := []) (n := fun p => kraise c f p.1 p.2) s hv (by rw [List.append_nil]; exact k) fun r Z1 H1 es1 v fp s1 hv1 k1 => ?_
  refine ⟨v, rfl, fun d nd => ?_⟩
  rw [List.nil_append] at s1 k1
  unfold kraise at k1
  split at k1
  · rename_i d0 hd
    obtain ⟨Z2, s2, st⟩ := s1.freeze (Fzd.refl _) (Fzd.all _)
    have fr : FReps K Z2 [v] [d0] := frz_reps (fun u m => s2.ok u (List.mem_append_right _ m)) hd rfl
    obtain ⟨s3, st3⟩ := s2.bare.laid (o := .xd [(f, v)]) nd
    have e := k1 Z2 (upd H1 d (.xd [(f, v)])) es1 d ?_ s3 (by rw [hv1]; exact Kept.refl _) rfl ⟨[(f, v)], upd_same, rfl, fr⟩
    · rw [hv1] at e; exact e
    · rw [List.append_nil] at st3
      exact (st.less fun a m => fps_app.mpr (.inl m)).tr st3
  · exact k1.elim
end
end Mi

/-! M24: calls where the wish about errors looks at the names. -/
namespace Mi
open PySem PySem.Spec PyProof.Rows L2 Rt
section
variable {X : Cx} {CX : CXT} {k : Nat} {g C : Addr} {fd : FuncData} {ps : List Str} {sp : Sp} {dvs : List V} {ds : List Value} {E : EW} {x n : Str} {p pos apos : Pos} {e o : Expr} {es : List Expr} {te : TE} {t : TA}
def tMethE (C : Addr) (n : Str) (sp : Sp) (dvs : List V) (E : EW) (te : TE) (t : TA) : TE := fun σ H Q => te σ H fun x H1 => ∃ a dx fs, x = .ref a ∧ H1 a = some (.ins C dx fs) ∧ fs.lookup n = none ∧
  t σ H1 fun vs H2 => sp (x :: (vs ++ dvs)) H2 Q (E σ)
theorem pe_methE {pl : Sem Bool} (he : PE X o te) (c : Cls X.K C) (hm : Meth X.K C n g) (F : FnOk X.prog X.w X.K X.mg X.base CX k g fd ps sp) (hr : Room k X.A) (hb : Binds X.K fd ps ds) (hd : Vals dvs ds) (hx : ∀ σ, PassesAt CX X σ (E σ)) (ha : PA X (e :: es) t)
    (hst : starEach (e :: es) X.env = (false, eval e X.env) :: starEach es X.env := by rfl) (hpl : (backTo pos (starEach es X.env)).any (·.1) = false := by rfl)
    (ht : eval (.Call (.Attribute o n apos) (e :: es) [] pos) X.env = (do
      let ov ← eval o X.env
      standAt apos.atName
      let (f, first) ← holding [ov] (getMethod ov n pl)
      callWith pos f first (backTo pos (starEach (e :: es) X.env)) (backToKw pos (keywordEach [] X.env))) := by rfl) :
    PE X (.Call (.Attribute o n apos) (e :: es) [] pos) (tMethE C n sp dvs E te t) := by
  refine ⟨fun pins s σ H Q I h => PySem.W.methodCall_KW (pl := pl) (thn (he.run pins s σ H _ I h) fun u s1 h1 => ?_) ht⟩
  obtain ⟨x, H1, I1, rx, a, dx, fs, ex, ea, l, q⟩ := h1
  subst ex
  obtain rfl : u = Value.ref a := rx
  refine getmeth_ok I1 ea c hm l (PySem.W.callWith_K (first := [.ref a]) (h₀ := X.base) I.ok.mod.kin hm.kp (thn (ha.run pos pins s1 σ H1 _ I1 q) fun us s2 h2 => ?_) hst hpl)
  obtain ⟨vs, H2, I2, r, q2⟩ := h2
  exact ⟨I2.kIn, run_fnSD (us := .ref a :: us) (vs := .ref a :: vs) F hr hb hd (hx σ) I2 (.cons rfl r) q2⟩
theorem pe_methE0 {pl : Sem Bool} (he : PE X o te) (c : Cls X.K C) (hm : Meth X.K C n g) (F : FnOk X.prog X.w X.K X.mg X.base CX k g fd ps sp) (hr : Room k X.A) (hb : Binds X.K fd ps ds) (hd : Vals dvs ds) (hx : ∀ σ, PassesAt CX X σ (E σ))
    (ht : eval (.Call (.Attribute o n apos) [] [] pos) X.env = (do
      let ov ← eval o X.env
      standAt apos.atName
      let (f, first) ← holding [ov] (getMethod ov n pl)
      callWith pos f first (backTo pos (starEach [] X.env)) (backToKw pos (keywordEach [] X.env))) := by rfl) :
    PE X (.Call (.Attribute o n apos) [] [] pos) (tMethE C n sp dvs E te tNil) := by
  refine ⟨fun pins s σ H Q I h => PySem.W.methodCall_KW (pl := pl) (thn (he.run pins s σ H _ I h) fun u s1 h1 => ?_) ht⟩
  obtain ⟨x, H1, I1, rx, a, dx, fs, ex, ea, l, q⟩ := h1
  subst ex
  obtain rfl : u = Value.ref a := rx
  exact getmeth_ok I1 ea c hm l (PySem.W.callWith_K0 I1.kIn hm.kp (first := [.ref a]) (run_fnSD (us := [.ref a]) (vs := [.ref a]) F hr hb hd (hx σ) I1 (.cons rfl .nil) q))
def tMakeE (C : Addr) (sp : Sp) (dvs : List V) (E : EW) (t : TA) : TE := fun σ H Q => t σ H fun vs H1 => ∀ x dx, H1 x = none → H1 dx = none → dx ≠ x →
  sp (.ref x :: (vs ++ dvs)) (upd (upd H1 dx (.own x)) x (.ins C dx [])) (fun v H2 => v = .non ∧ Q (.ref x) H2) (E σ)
theorem run_makeE {pins : List (Addr × Obj)} {σ : L2.St} {H : Hp} {s : Shared} {Q : VK} {us : List Value} {vs : List V} (M : Mk X.K C g) (F : FnOk X.prog X.w X.K X.mg X.base CX k g fd ps sp) (hr : Room (k + 1) X.A) (hb : Binds X.K fd ps ds) (hd : Vals dvs ds) (hx : PassesAt CX X σ (E σ))
    (I : Inv X pins σ H s) (r : Vals vs us) (h : ∀ x dx, H x = none → H dx = none → dx ≠ x → sp (.ref x :: (vs ++ dvs)) (upd (upd H dx (.own x)) x (.ins C dx [])) (fun v H2 => v = .non ∧ Q (.ref x) H2) (E σ)) :
    wpAny (model X.prog X.w) X.A (call (.ref C) us) (EP X pins σ Q) X.xe s := by
  have far := I.hok.fresh (Nat.le_succ s.heap.objs.size)
  have here := I.hok.fresh (Nat.le_refl s.heap.objs.size)
  have q := h _ _ far here (Nat.ne_of_lt (Nat.lt_succ_self _))
  have J := Inv.made (C := C) I
  have rr : Vals (V.ref (s.heap.objs.size + 1) :: (vs ++ dvs)) (Value.ref (s.heap.objs.size + 1) :: (us ++ ds)) := .cons rfl (r.append hd)
  have ll : (Value.ref (s.heap.objs.size + 1) :: us ++ ds).length = ps.length := by
    rw [← F.len _ _ _ _ q]; exact rr.length.symm
  have bb := hb _ (Value.ref (s.heap.objs.size + 1) :: us) J.kIn ll
  have run := F.run _ X.stack _ _ ⟨Value.ref (s.heap.objs.size + 1) :: us, []⟩ (Value.ref (s.heap.objs.size + 1) :: (us ++ ds)) _ _ (E σ) (hr.make C us []) (J.env0.make C us []) bb rr q
  refine wpAny_call (make_map (f := g) I.kIn M.makes M.init (beq_iff_eq.mp M.fn) (codeAny_mono run fun res s' z => ?_))
  cases res with
  | error er => exact hx pins _ _ er s' J z
  | ok fl =>
    cases fl with
    | ret u =>
      obtain ⟨v, H', J3, rv, ev, q3⟩ := J.after z
      subst ev
      exact ⟨rv, V.ref (s.heap.objs.size + 1), H', J3, rfl, q3⟩
    | _ => exact False.elim z
theorem pe_makeE (M : Mk X.K C g) (F : FnOk X.prog X.w X.K X.mg X.base CX k g fd ps sp) (hr : Room (k + 1) X.A) (hg : Gl X x) (hm : X.mg x = some (.ref C)) (hb : Binds X.K fd ps ds) (hd : Vals dvs ds) (hx : ∀ σ, PassesAt CX X σ (E σ)) (ha : PA X (e :: es) t)
    (hdb : (x == ("__debug__" : Str)) = false := by decide) (he : starEach (e :: es) X.env = (false, eval e X.env) :: starEach es X.env := by rfl) (hpl : (backTo pos (starEach es X.env)).any (·.1) = false := by rfl) :
    PE X (.Call (.Name x p) (e :: es) [] pos) (tMakeE C sp dvs E t) := by
  refine ⟨fun pins s σ H Q I h => wpAny_Call_Name_kw (ld_glob I hg hm (PySem.W.callWith_K (h₀ := X.base) I.ok.mod.kin M.kp (thn (ha.run pos pins s σ H _ I h) fun us s1 h1 => ?_) he hpl) hdb)⟩
  obtain ⟨vs, H1, I1, r, q⟩ := h1
  exact ⟨I1.kIn, run_makeE M F hr hb hd (hx σ) I1 r q⟩
end
section
variable {X : Cx} {E : EW} {e : Expr} {dvs : List V} {dds : List D} {m : Fm} {fo : FE} {ft : FA}
theorem cv_callE (hd : Paired (Leaf X.K) dvs dds) (h : PE X e (tCallSD (spM X.K m) dvs E (RA X.K E ft))) : PE X e (RE X.K E (fCall m dds ft)) := pe_mono h fun _ _ _ z => re_callE hd z
theorem cv_methE {n k : Str} (hd : Paired (Leaf X.K) dvs dds) (h : PE X e (tMethE (He.ga X.K n) k (spM X.K m) dvs E (RE X.K E fo) (RA X.K E ft))) : PE X e (RE X.K E (fMeth n k m dds fo ft)) := pe_mono h fun _ _ _ z => re_methE hd z
theorem cv_makeE {n : Str} {tg : Tg} (ht : tg ≠ .fz) (hd : Paired (Leaf X.K) dvs dds) (h : PE X e (tMakeE (He.ga X.K n) (spM X.K m) dvs E (RA X.K E ft))) : PE X e (RE X.K E (fMake n tg m dds ft)) := pe_mono h fun _ _ _ z => re_makeE ht hd z
theorem cs_raise {kp : List Nat} {c f : Str} {fe : FE} {st : Stmt} (h : PS X st (fun _ σ H => tMkX (He.ga X.K c) f (tCons (RE X.K E fe) tNil) σ H fun cls d H' => E σ cls d H')) : PS X st (RS X.K E kp (fRaise c f fe)) := ps_mono h fun _ _ _ z => rs_raise z
end
end Mi

/-! M25: try, except. -/
namespace Mi
open PySem PySem.Spec PyProof.Rows L2 Rt
def So.wipe (i : Nat) : So → So
  | .nx ss => .nx (setS i .un ss)
  | .bk ss => .bk (setS i .un ss)
  | .ct ss => .ct (setS i .un ss)
  | .rt r ss => .rt r ss
  | _ => .stuck
def ktry (xs : List Str) (c : Str) (i : Nat) (g : List (Str × D) → FS) (o : So) : So := match o with
  | .exc c' fs s1 => if c' ∈ xs ∧ c ∈ xs ∧ i < s1.length then (if c' = c then (g fs (setS i .un s1)).wipe i else .exc c' fs s1) else .stuck
  | o => o
/-- try: f / except c as (name i): g, told the error's fields -/
def fTryAs (xs : List Str) (c : Str) (i : Nat) (f : FS) (g : List (Str × D) → FS) : FS := fun ss => ktry xs c i g (f ss)
abbrev EN : EW := fun _ _ _ _ => False
/-- in an except suite: a the error, named by i, of the class c; d its dict -/
def RSX (K : PySem.W.Frag) (kp : List Nat) (c : Str) (i : Nat) (g : List (Str × D) → FS) (a : Addr) (cls : Value) (d : Option Addr) : TS := fun D σ H => ∃ Z es fs dd, cls = .ref (He.ga K c) ∧ d = some dd ∧ Sat K Z H es [] ∧ vsOf es = σ ∧
  σ[i]? = some (some (.ref a)) ∧ ExcD K Z H dd fs ∧ SK K EN kp σ Z H (fpsOf es) (g fs (ssOf es)) D
def XmOk (K : PySem.W.Frag) (xs : List Str) : Prop := ∀ c ∈ xs, ∀ e ∈ xs, PySem.W.exmOne K (.ref (He.ga K c)) (.ref (He.ga K e)) = some (decide (c = e))
section
variable {K : PySem.W.Frag} {E : EW} {kp : List Nat} {σ : L2.St} {Z H : Hp} {D : Ends} {es ts : List Ent} {xs : List Str} {c : Str} {i : Nat} {f : FS}
theorem Sat.blank (s : Sat K Z H es ts) (v : Option V) : Sat K Z H es (ts ++ [⟨v, .un, []⟩]) := by
  have e : fpsOf (es ++ (ts ++ [⟨v, .un, []⟩])) = fpsOf (es ++ ts) := by
    simp only [fpsOf, List.flatMap_append, List.flatMap_cons, List.flatMap_nil, List.append_nil]
  refine ⟨s.sub, by rw [e]; exact s.nd, fun a m => s.zf a (by rw [e] at m; exact m), fun u m => ?_⟩
  rw [← List.append_assoc] at m
  rcases List.mem_append.mp m with q | q
  · exact s.ok u q
  · obtain rfl := List.mem_singleton.mp q
    rfl
theorem Sat.name (s : Sat K Z H es []) (hi : i < es.length) (v : Option V) : ∃ es', Sat K Z H es' [] ∧ (∀ a ∈ fpsOf es', a ∈ fpsOf es) ∧ vsOf es' = (vsOf es).set i v ∧ ssOf es' = setS i .un (ssOf es) := by
  obtain ⟨es', s', h1, h2, h3⟩ := Sat.assign (ts := []) (s.blank v) hi (by simp)
  refine ⟨es', s', fun a m => ?_, h2, h3⟩
  have := h1 a (by rw [List.append_nil]; exact m)
  simpa [fpsOf] using this
end
section
variable {K : PySem.W.Frag} {E : EW} {kp : List Nat} {σ : L2.St} {Z H : Hp} {D : Ends} {es ts : List Ent} {xs : List Str} {c : Str} {i : Nat} {f : FS} {g : List (Str × Mi.D) → FS}
theorem sk_wipe {σ0 : L2.St} {Z0 H0 : Hp} {F0 : List Addr} {o : So} (hk : i ∉ kp) (st : Step Z0 H0 F0 Z H (fpsOf es)) (hv : vsOf es = σ) (kd : Kept kp σ0 σ) (hi : ∀ ss, (o = .nx ss ∨ o = .bk ss ∨ o = .ct ss) → i < ss.length) (k : SK K E kp σ0 Z0 H0 F0 (o.wipe i) D) :
    SK K EN kp σ Z H (fpsOf es) o { nx := fun σ' H' => D.nx (σ'.set i none) H', rt := D.rt, bk := fun σ' H' => D.bk (σ'.set i none) H', ct := fun σ' H' => D.ct (σ'.set i none) H' } := by
  have go : ∀ {R : L2.St → Hp → Prop} {ss : List Sl}, i < ss.length → (∀ Z' H' es', Step Z0 H0 F0 Z' H' (fpsOf es') → Sat K Z' H' es' [] → Kept kp σ0 (vsOf es') → ssOf es' = setS i .un ss → R (vsOf es') H') →
      ∀ Z' H' es', Step Z H (fpsOf es) Z' H' (fpsOf es') → Sat K Z' H' es' [] → Kept kp σ (vsOf es') → ssOf es' = ss → R ((vsOf es').set i none) H' := by
    intro R ss hl kk Z' H' es' st' s' kd' e
    obtain ⟨es2, s2, f2, v2, e2⟩ := s'.name (i := i) (by rw [← e] at hl; simpa using hl) none
    have := kk Z' H' es2 ((st.tr st').less f2) s2 (by rw [v2]; exact (kd.tr kd').tr (kept_set hk)) (by rw [e2, e])
    rw [v2] at this
    exact this
  cases o with
  | nx ss => exact go (hi ss (.inl rfl)) k
  | bk ss => exact go (hi ss (.inr (.inl rfl))) k
  | ct ss => exact go (hi ss (.inr (.inr rfl))) k
  | rt r ss => exact fun Z' H' es' v fv st' s' kd' e => k Z' H' es' v fv (st.tr st') s' (kd.tr kd') e
  | exc c fs ss => exact k.elim
  | stuck => exact k.elim
/-- what a suite leaves has all names -/
def Long (i : Nat) (o : So) : Prop := ∀ ss, (o = .nx ss ∨ o = .bk ss ∨ o = .ct ss) → i < ss.length
theorem rs_try (hk : i ∉ kp) (hg : ∀ fs ss, i < ss.length → Long i (g fs ss)) (xm : XmOk K xs) (h : RS K E kp (fTryAs xs c i f g) D σ H) :
    RS K (WE (wAs K (.ref (He.ga K c)) i (fun a cls d => RSX K kp c i g a cls d) (fun cls d σ H => E σ cls d H) D)) kp f D σ H := by
  obtain ⟨Z, es, s, hv, k⟩ := h
  refine ⟨Z, es, s, hv, ?_⟩
  unfold fTryAs at k
  cases hf : f (ssOf es) with
  | nx ss => rw [hf] at k; exact k
  | bk ss => rw [hf] at k; exact k
  | ct ss => rw [hf] at k; exact k
  | rt r ss => rw [hf] at k; exact k
  | stuck => rw [hf] at k; exact k
  | exc c' fs s1 =>
    rw [hf] at k
    unfold ktry at k
    dsimp only at k
    split at k
    · rename_i hc
      intro Z' H' es' d st s' kd e ed
      refine ⟨decide (c' = c), xm _ hc.1 _ hc.2.1, fun hb a na => ?_, fun hb => ?_⟩
      · have ec : c' = c := of_decide_eq_true hb
        rw [if_pos ec] at k
        subst ec
        have hi : i < es'.length := by have := hc.2.2; rw [← e] at this; simpa using this
        obtain ⟨es2, s2, f2, v2, e2⟩ := s'.name (i := i) hi (some (.ref a))
        refine ⟨Z', es2, fs, d, rfl, rfl, s2, v2, by rw [List.getElem?_set_self (by simpa using hi)], ed, ?_⟩
        rw [e2, e]
        rw [← v2]
        refine sk_wipe hk (st.less f2) rfl (by rw [v2]; exact kd.tr (kept_set hk)) (hg _ _ ?_) k
        have : (setS i .un s1).length = s1.length := by
          unfold setS
          simp
        rw [this]
        exact hc.2.2
      · have ec : c' ≠ c := of_decide_eq_false hb
        rw [if_neg ec] at k
        exact k Z' H' es' d st s' kd e ed
    · exact k.elim
/-! ### in the suite -/
/-- x = e.f -/
def fXf (f : Str) (j : Nat) (fs : List (Str × Mi.D)) : FS := fun ss => match fs.lookup f with
  | some d => kset j (.fz d) ss
  | none => .stuck
/-- nothing more of the error is asked -/
theorem rsx_plain {a : Addr} {cls : Value} {d : Option Addr} {g : FS} (h : RSX K kp c i (fun _ => g) a cls d D σ H) : RS K EN kp g D σ H := by
  obtain ⟨Z, es, fs, dd, _, _, s, hv, _, _, k⟩ := h
  exact ⟨Z, es, s, hv, k⟩
theorem rsx_fld {a : Addr} {cls : Value} {d : Option Addr} {f : Str} {j : Nat} {g : List (Str × Mi.D) → FS} (hj : j ∉ kp) (ji : j ≠ i) (h : RSX K kp c i (fun fs => fSeq (fXf f j fs) (g fs)) a cls d D σ H) :
    tSeq (tAsg (tXf a cls d (He.ga K c) f (tVar i)) (gName j)) (RSX K kp c i g a cls d) D σ H := by
  obtain ⟨Z, es, fs, dd, rfl, rfl, s, hv, hi, ⟨vs, hd, hn, hr⟩, k⟩ := h
  refine ⟨.ref a, hi, rfl, rfl, dd, vs, ?_⟩
  change SK K EN kp σ Z H (fpsOf es) ((fXf f j fs (ssOf es)).seq (g fs)) D at k
  unfold fXf at k
  rcases lookup_rel (f := f) hn hr with ⟨_, q⟩ | ⟨v, x, q1, q2, q3⟩
  · rw [q] at k; exact k.elim
  · rw [q2] at k
    dsimp only at k
    refine ⟨v, rfl, hd, q1, ?_⟩
    unfold kset So.seq at k
    by_cases hl : j < (ssOf es).length
    · rw [if_pos hl] at k
      have s1 : Sat K Z H es ([] ++ [⟨some v, .fz x, []⟩]) := (s.new (New.fz s.sub q3)).1
      obtain ⟨es', s', h1, h2, h3⟩ := Sat.assign (ts := []) s1 (by simpa using hl) (by simp)
      refine ⟨Z, es', fs, dd, rfl, rfl, s', by rw [h2, hv], ?_, ⟨vs, hd, hn, hr⟩, ?_⟩
      · rw [List.getElem?_set_ne ji]; exact hi
      · rw [← hv, ← h2, h3]
        have kk : SK K EN kp (vsOf es) Z H (fpsOf es) (g fs (setS j (.fz x) (ssOf es))) D := by rw [hv]; exact k
        refine SK.from (Step.refl fun a m => ?_) (by rw [h2]; exact kept_set hj) kk
        have := h1 a (by rw [List.append_nil]; exact m)
        simpa [fpsOf] using this
    · rw [if_neg hl] at k
      exact k.elim
end
end Mi

/-! M26: own errors: what is asked of Python's own; converters. -/
namespace Mi
open PySem PySem.Spec PyProof.Rows L2 Rt
theorem vv_Type (K : PySem.W.Frag) : PySem.W.findCls K (.type "TypeError") (.type "type") "__init__" = some (.val (.builtin "TypeError.__init__")) := by kernel_rfl
theorem tt_Type : typeOf (.type "TypeError") = pure (.type "type") := by kernel_rfl
theorem bb_Type : bootBuiltins "TypeError" = some (.type "TypeError") := by decide +kernel
theorem vv_Zero (K : PySem.W.Frag) : PySem.W.findCls K (.type "ZeroDivisionError") (.type "type") "__init__" = some (.val (.builtin "ZeroDivisionError.__init__")) := by kernel_rfl
theorem tt_Zero : typeOf (.type "ZeroDivisionError") = pure (.type "type") := by kernel_rfl
theorem bb_Zero : bootBuiltins "ZeroDivisionError" = some (.type "ZeroDivisionError") := by decide +kernel
theorem vv_Arith (K : PySem.W.Frag) : PySem.W.findCls K (.type "ArithmeticError") (.type "type") "__init__" = some (.val (.builtin "ArithmeticError.__init__")) := by kernel_rfl
theorem tt_Arith : typeOf (.type "ArithmeticError") = pure (.type "type") := by kernel_rfl
theorem bb_Arith : bootBuiltins "ArithmeticError" = some (.type "ArithmeticError") := by decide +kernel
theorem vv_Lookup (K : PySem.W.Frag) : PySem.W.findCls K (.type "LookupError") (.type "type") "__init__" = some (.val (.builtin "LookupError.__init__")) := by kernel_rfl
theorem tt_Lookup : typeOf (.type "LookupError") = pure (.type "type") := by kernel_rfl
theorem bb_Lookup : bootBuiltins "LookupError" = some (.type "LookupError") := by decide +kernel
theorem vv_Index (K : PySem.W.Frag) : PySem.W.findCls K (.type "IndexError") (.type "type") "__init__" = some (.val (.builtin "IndexError.__init__")) := by kernel_rfl
theorem tt_Index : typeOf (.type "IndexError") = pure (.type "type") := by kernel_rfl
theorem bb_Index : bootBuiltins "IndexError" = some (.type "IndexError") := by decide +kernel
theorem vv_Over (K : PySem.W.Frag) : PySem.W.findCls K (.type "OverflowError") (.type "type") "__init__" = some (.val (.builtin "OverflowError.__init__")) := by kernel_rfl
theorem tt_Over : typeOf (.type "OverflowError") = pure (.type "type") := by kernel_rfl
theorem bb_Over : bootBuiltins "OverflowError" = some (.type "OverflowError") := by decide +kernel
theorem vv_Runtime (K : PySem.W.Frag) : PySem.W.findCls K (.type "RuntimeError") (.type "type") "__init__" = some (.val (.builtin "RuntimeError.__init__")) := by kernel_rfl
theorem tt_Runtime : typeOf (.type "RuntimeError") = pure (.type "type") := by kernel_rfl
theorem bb_Runtime : bootBuiltins "RuntimeError" = some (.type "RuntimeError") := by decide +kernel
theorem vv_NotImpl (K : PySem.W.Frag) : PySem.W.findCls K (.type "NotImplementedError") (.type "type") "__init__" = some (.val (.builtin "NotImplementedError.__init__")) := by kernel_rfl
theorem tt_NotImpl : typeOf (.type "NotImplementedError") = pure (.type "type") := by kernel_rfl
theorem bb_NotImpl : bootBuiltins "NotImplementedError" = some (.type "NotImplementedError") := by decide +kernel
theorem vv_Value (K : PySem.W.Frag) : PySem.W.findCls K (.type "ValueError") (.type "type") "__init__" = some (.val (.builtin "ValueError.__init__")) := by kernel_rfl
theorem tt_Value : typeOf (.type "ValueError") = pure (.type "type") := by kernel_rfl
theorem bb_Value : bootBuiltins "ValueError" = some (.type "ValueError") := by decide +kernel
theorem vv_Exc (K : PySem.W.Frag) : PySem.W.findCls K (.type "Exception") (.type "type") "__init__" = some (.val (.builtin "Exception.__init__")) := by kernel_rfl
theorem tt_Exc : typeOf (.type "Exception") = pure (.type "type") := by kernel_rfl
theorem bb_Exc : bootBuiltins "Exception" = some (.type "Exception") := by decide +kernel
abbrev tl_Type : List Value := [.type "TypeError", .type "Exception", .type "BaseException", .type "object"]
abbrev tl_Zero : List Value := [.type "ZeroDivisionError", .type "ArithmeticError", .type "Exception", .type "BaseException", .type "object"]
abbrev tl_Arith : List Value := [.type "ArithmeticError", .type "Exception", .type "BaseException", .type "object"]
abbrev tl_Lookup : List Value := [.type "LookupError", .type "Exception", .type "BaseException", .type "object"]
abbrev tl_Index : List Value := [.type "IndexError", .type "LookupError", .type "Exception", .type "BaseException", .type "object"]
abbrev tl_Over : List Value := [.type "OverflowError", .type "ArithmeticError", .type "Exception", .type "BaseException", .type "object"]
abbrev tl_Runtime : List Value := [.type "RuntimeError", .type "Exception", .type "BaseException", .type "object"]
abbrev tl_NotImpl : List Value := [.type "NotImplementedError", .type "RuntimeError", .type "Exception", .type "BaseException", .type "object"]
abbrev tl_Value : List Value := [.type "ValueError", .type "Exception", .type "BaseException", .type "object"]
abbrev tl_Exc : List Value := [.type "Exception", .type "BaseException", .type "object"]
/-- one of Python's errors, with what its __init__ is looked up by -/
structure XUse (x : Str) (T nw ini : String) (tl : List Value) : Prop extends XBase T nw ini tl where
  boot : bootBuiltins x = some (.type T)
  nn : x ≠ "__name__"
  nd : (x == ("__debug__" : Str)) = false
  ty : typeOf (.type T) = pure (.type "type")
  stub : Manifest.isStub T = false
  vv : ∀ K : PySem.W.Frag, PySem.W.findCls K (.type T) (.type "type") "__init__" = some (.val (.builtin ini))
  hh : PySem.W.handedIn (.builtin ini) = true
theorem xu_Type : XUse "TypeError" "TypeError" "TypeError.__new__" "TypeError.__init__" tl_Type := { xb_Type with boot := bb_Type, nn := by decide, nd := by decide, ty := tt_Type, stub := by decide +kernel, vv := vv_Type, hh := by decide +kernel }
theorem xu_Zero : XUse "ZeroDivisionError" "ZeroDivisionError" "ZeroDivisionError.__new__" "ZeroDivisionError.__init__" tl_Zero := { xb_Zero with boot := bb_Zero, nn := by decide, nd := by decide, ty := tt_Zero, stub := by decide +kernel, vv := vv_Zero, hh := by decide +kernel }
theorem xu_Arith : XUse "ArithmeticError" "ArithmeticError" "ArithmeticError.__new__" "ArithmeticError.__init__" tl_Arith := { xb_Arith with boot := bb_Arith, nn := by decide, nd := by decide, ty := tt_Arith, stub := by decide +kernel, vv := vv_Arith, hh := by decide +kernel }
theorem xu_Lookup : XUse "LookupError" "LookupError" "LookupError.__new__" "LookupError.__init__" tl_Lookup := { xb_Lookup with boot := bb_Lookup, nn := by decide, nd := by decide, ty := tt_Lookup, stub := by decide +kernel, vv := vv_Lookup, hh := by decide +kernel }
theorem xu_Index : XUse "IndexError" "IndexError" "IndexError.__new__" "IndexError.__init__" tl_Index := { xb_Index with boot := bb_Index, nn := by decide, nd := by decide, ty := tt_Index, stub := by decide +kernel, vv := vv_Index, hh := by decide +kernel }
theorem xu_Over : XUse "OverflowError" "OverflowError" "OverflowError.__new__" "OverflowError.__init__" tl_Over := { xb_Over with boot := bb_Over, nn := by decide, nd := by decide, ty := tt_Over, stub := by decide +kernel, vv := vv_Over, hh := by decide +kernel }
theorem xu_Runtime : XUse "RuntimeError" "RuntimeError" "RuntimeError.__new__" "RuntimeError.__init__" tl_Runtime := { xb_Runtime with boot := bb_Runtime, nn := by decide, nd := by decide, ty := tt_Runtime, stub := by decide +kernel, vv := vv_Runtime, hh := by decide +kernel }
theorem xu_NotImpl : XUse "NotImplementedError" "NotImplementedError" "NotImplementedError.__new__" "NotImplementedError.__init__" tl_NotImpl := { xb_NotImpl with boot := bb_NotImpl, nn := by decide, nd := by decide, ty := tt_NotImpl, stub := by decide +kernel, vv := vv_NotImpl, hh := by decide +kernel }
theorem xu_Value : XUse "ValueError" "ValueError" "ValueError.__new__" "ValueError.__init__" tl_Value := { xb_Value with boot := bb_Value, nn := by decide, nd := by decide, ty := tt_Value, stub := by decide +kernel, vv := vv_Value, hh := by decide +kernel }
theorem xu_Exc : XUse "Exception" "Exception" "Exception.__new__" "Exception.__init__" tl_Exc := { xb_Exc with boot := bb_Exc, nn := by decide, nd := by decide, ty := tt_Exc, stub := by decide +kernel, vv := vv_Exc, hh := by decide +kernel }
section
variable {X : Cx} {E : EW} {kp : List Nat} {T nw ini : String} {tl : List Value} {x n : Str} {e : Expr} {es : List Expr} {ta : TA} {p p1 p2 pos pos' : Pos} {c f : Str} {fe : FE} {st : Stmt} {sts suite : List Stmt} {b₀ : Stmt} {i j : Nat} {xs : List Str}
theorem pe_xini {pl : Sem Bool} (B : XUse x T nw ini tl) (hg : Gl X x) (hm : X.mg x = none) (ha : PA X (e :: es) ta)
    (hc : eval (.Call (.Attribute (.Name x p1) "__init__" p2) (e :: es) [] pos) X.env = (do
      let ov ← eval (.Name x p1) X.env
      standAt p2.atName
      let (f, first) ← holding [ov] (getMethod ov "__init__" pl)
      callWith pos f first (backTo pos (starEach (e :: es) X.env)) (backToKw pos (keywordEach [] X.env))) := by rfl)
    (he : starEach (e :: es) X.env = (false, eval e X.env) :: starEach es X.env := by rfl) (hpl : (backTo pos (starEach es X.env)).any (·.1) = false := by rfl) :
    PE X (.Call (.Attribute (.Name x p1) "__init__" p2) (e :: es) [] pos) (tIni X.K nw tl ta) := pe_ini B.toXBase hg hm B.boot B.nn B.nd B.ty B.stub (B.vv X.K) B.hh ha hc he hpl
theorem cs_raiseX (hc : X.calm = true) (tk : Takes X (fun cls d σ H => E σ cls d H)) (he : PMk X e (tMkX (He.ga X.K c) f (tCons (RE X.K E fe) tNil))) : PS X (.Raise (some e) none pos) (RS X.K E kp (fRaise c f fe)) := ps_mono (ps_raise hc tk he) fun _ _ _ z => rs_raise z
theorem cs_try {body : List Stmt} {np : Pos} {f : FS} {g : List (Str × Mi.D) → FS} (hs : X.stack = X.env :: X.outer) (hf : X.env.frame = some X.env.locals) (hN : X.N.Nodup) (hi : X.N[i]? = some n) (hln : X.env.kindOf n = some .local) (hc : Names X x (.ref (He.ga X.K c)))
    (tk : Takes X (fun cls d σ H => E σ cls d H)) (hk : i ∉ kp) (hg : ∀ fs ss, i < ss.length → Long i (g fs ss)) (xm : XmOk X.K xs)
    (hb : ∀ (W : WX) (pn : List (Addr × Obj)) (xe : Value → Shared → Prop), Takes (X.tr pn xe) W → PassesOwn (model X.prog X.w) X.A X.env xe → PSs (X.tr pn xe) body (RS X.K (WE W) kp f))
    (hsu : ∀ (a : Addr) (oe : Obj) (cls : Value) (d : Option Addr) (pn : List (Addr × Obj)), Zc cls d oe → (∃ vs, oe.data = .fields vs) → PSs (X.suite a ((a, oe) :: pn)) (b₀ :: suite) (RSX X.K kp c i g a cls d)) :
    PS X (.Try body [.ExceptHandler (some (.Name x np)) (some n) (b₀ :: suite) pos'] [] [] pos) (RS X.K E kp (fTryAs xs c i f g)) :=
  ps_mono (ps_try_as (tb := fun W => RS X.K (WE W) kp f) (ts := fun a cls d => RSX X.K kp c i g a cls d) hs hf hN hi hln hc tk hb hsu) fun D σ H z => rs_try hk hg xm z
theorem xs_fld {a : Addr} {cls : Value} {d : Option Addr} {g : List (Str × Mi.D) → FS} (hj : j ∉ kp) (ji : j ≠ i) (h1 : PS X st (tAsg (tXf a cls d (He.ga X.K c) f (tVar i)) (gName j))) (h2 : PSs X sts (RSX X.K kp c i g a cls d)) :
    PSs X (st :: sts) (RSX X.K kp c i (fun fs => fSeq (fXf f j fs) (g fs)) a cls d) := pss_mono (pss_cons h1 h2) fun D σ H z => rsx_fld hj ji z
theorem xs_plain {a : Addr} {cls : Value} {d : Option Addr} {g : FS} (h : PSs X sts (RS X.K EN kp g)) : PSs X sts (RSX X.K kp c i (fun _ => g) a cls d) := pss_mono h fun D σ H z => rsx_plain z
theorem long_next {i : Nat} : ∀ (fs : List (Str × Mi.D)) (ss : List Sl), i < ss.length → Long i (fNext ss) := fun _ ss h s q => by
  rcases q with q | q | q
  · cases q; exact h
  · cases q
  · cases q
theorem long_xf {i : Nat} {f : Str} {j : Nat} {g : List (Str × Mi.D) → FS} (h : ∀ fs ss, i < ss.length → Long i (g fs ss)) : ∀ (fs : List (Str × Mi.D)) (ss : List Sl), i < ss.length → Long i (fSeq (fXf f j fs) (g fs) ss) := fun fs ss hl => by
  unfold fSeq fXf
  cases fs.lookup f with
  | none => exact fun s q => by rcases q with q | q | q <;> cases q
  | some d =>
    dsimp only
    unfold kset
    split
    · refine h fs _ ?_
      have : (setS j (.fz d) ss).length = ss.length := by unfold setS; simp
      rw [this]; exact hl
    · exact fun s q => by rcases q with q | q | q <;> cases q
end
theorem pXF {X : Cx} {W : WX} (tk : Takes X W) : Passes (L2.CX X.prog X.w) X (fun _ _ _ => False) := passes_call tk fun _ _ _ _ h => h.elim
theorem tX {P : Program} {w : World} {K : PySem.W.Frag} {mg : Str → Option Value} {base : Heap} {N : List Str} {qual : Str} {scope : Scope} {f : Addr} {cd : Value} {A : Around} {outer : List Env} {s : Shared} {H : Hp} {E : XK} :
    Takes (cxOf (L2.CX P w) P w K mg base N qual scope f cd A outer s H E) (fun cls d _ H => E cls d H) := takes_of rfl rfl rfl rfl
def xmB (K : PySem.W.Frag) (xs : List Str) : Bool := xs.all fun c => xs.all fun e => decide (PySem.W.exmOne K (.ref (He.ga K c)) (.ref (He.ga K e)) = some (decide (c = e)))
theorem xm_of {K : PySem.W.Frag} {xs : List Str} (h : xmB K xs = true) : XmOk K xs := fun c hc e he => of_decide_eq_true (List.all_eq_true.mp (List.all_eq_true.mp h c hc) e he)
end Mi

/-! M27: how errors are reckoned. -/
namespace Mi
open PySem PySem.Spec PyProof.Rows L2 Rt
section
variable {c c' f : Str} {fs : List (Str × D)} {ss s1 : List Sl} {d : D} {r : Sl} {i j : Nat} {xs : List Str} {g : List (Str × D) → FS} {fe : FE} {b : FS}
def cRaise (c f : Str) (p : Sl × List Sl) : So := kraise c f p.1 p.2
theorem e_raise : fRaise c f fe ss = (fe ss).so (cRaise c f) := rfl
theorem e_craise : cRaise c f (r, ss) = kraise c f r ss := rfl
theorem e_krf : kraise c f (.fz d) ss = .exc c [(f, d)] ss := rfl
theorem e_kro {t : Tg} : kraise c f (.ow t d) ss = .exc c [(f, d)] ss := rfl
theorem e_try : fTryAs xs c i b g ss = ktry xs c i g (b ss) := rfl
theorem e_tryn : ktry xs c i g (.nx ss) = .nx ss := rfl
theorem e_tryr : ktry xs c i g (.rt r ss) = .rt r ss := rfl
theorem e_tryb : ktry xs c i g (.bk ss) = .bk ss := rfl
theorem e_tryc : ktry xs c i g (.ct ss) = .ct ss := rfl
theorem e_trye : ktry xs c i g (.exc c' fs s1) = if c' ∈ xs ∧ c ∈ xs ∧ i < s1.length then (if c' = c then (g fs (setS i .un s1)).wipe i else .exc c' fs s1) else .stuck := rfl
theorem e_wn : (So.nx ss).wipe i = .nx (setS i .un ss) := rfl
theorem e_wb : (So.bk ss).wipe i = .bk (setS i .un ss) := rfl
theorem e_wc : (So.ct ss).wipe i = .ct (setS i .un ss) := rfl
theorem e_wr : (So.rt r ss).wipe i = .rt r ss := rfl
def xf1 (j : Nat) (ss : List Sl) : Option D → So
  | some d => kset j (.fz d) ss
  | none => .stuck
theorem e_xf : fXf f j fs ss = xf1 j ss (fs.lookup f) := by unfold fXf xf1; rfl
theorem e_xf1 : xf1 j ss (some d) = kset j (.fz d) ss := rfl
end
theorem e_chain {op op' : Tg → D → Tg → D → Option Sl} {fa fb fc : FE} {ss : List Sl} : fChain op op' fa fb fc ss = (fa ss).bind fun p => (fb p.2).bind fun q => (k2 op p.1 q.1 q.2).bind fun r => match r.1 with
  | .fz (.bl true) => (fc r.2).bind fun w => k2 op' q.1 w.1 w.2
  | .fz (.bl false) => .ok (.fz (.bl false), r.2)
  | _ => .stuck := rfl
def cCh4 (op' : Tg → D → Tg → D → Option Sl) (y : Sl) (w : Sl × List Sl) : Ro (Sl × List Sl) := k2 op' y w.1 w.2
def cCh3 (op' : Tg → D → Tg → D → Option Sl) (fc : FE) (y : Sl) (r : Sl × List Sl) : Ro (Sl × List Sl) := match r.1 with
  | .fz (.bl true) => (fc r.2).bind (cCh4 op' y)
  | .fz (.bl false) => .ok (.fz (.bl false), r.2)
  | _ => .stuck
def cCh2 (op op' : Tg → D → Tg → D → Option Sl) (fc : FE) (x : Sl) (q : Sl × List Sl) : Ro (Sl × List Sl) := (k2 op x q.1 q.2).bind (cCh3 op' fc q.1)
def cCh1 (op op' : Tg → D → Tg → D → Option Sl) (fb fc : FE) (p : Sl × List Sl) : Ro (Sl × List Sl) := (fb p.2).bind (cCh2 op op' fc p.1)
theorem e_chn {op op' : Tg → D → Tg → D → Option Sl} {fa fb fc : FE} {ss : List Sl} : fChain op op' fa fb fc ss = (fa ss).bind (cCh1 op op' fb fc) := rfl
theorem e_ch1 {op op' : Tg → D → Tg → D → Option Sl} {fb fc : FE} {x : Sl} {ss : List Sl} : cCh1 op op' fb fc (x, ss) = (fb ss).bind (cCh2 op op' fc x) := rfl
theorem e_ch2 {op op' : Tg → D → Tg → D → Option Sl} {fc : FE} {x y : Sl} {ss : List Sl} : cCh2 op op' fc x (y, ss) = (k2 op x y ss).bind (cCh3 op' fc y) := rfl
theorem e_ch3 {op' : Tg → D → Tg → D → Option Sl} {fc : FE} {y : Sl} {b : Bool} {ss : List Sl} : cCh3 op' fc y (.fz (.bl b), ss) = if b = true then (fc ss).bind (cCh4 op' y) else .ok (.fz (.bl b), ss) := by
  cases b <;> rfl
theorem e_ch4 {op' : Tg → D → Tg → D → Option Sl} {y w : Sl} {ss : List Sl} : cCh4 op' y (w, ss) = k2 op' y w ss := rfl
end Mi

namespace Lw
open PySem PySem.Spec PyProof.Rows L2 Rt Mi
def top (i : Nat) : Stmt := PySem.Challenge.pw_rideturns_k02_sums_of_shares.main.body.getD i (.Pass ⟨0, 0, 0, 0⟩)
abbrev s_law_held : Stmt := top 8
abbrev N_law_held : List Str := ["_law_script"]
theorem sc_law_held : FnScope N_law_held ["_law_script"] (defScope s_law_held) := ⟨rfl, rfl, rfl, by decide +kernel, rfl, by decide +kernel, by decide +kernel⟩
abbrev s_law_low : Stmt := top 11
abbrev N_law_low : List Str := ["_law_top", "_law_bottom", "_law_one", "_law_other"]
theorem sc_law_low : FnScope N_law_low ["_law_top", "_law_bottom"] (defScope s_law_low) := ⟨rfl, rfl, rfl, by decide +kernel, rfl, by decide +kernel, by decide +kernel⟩
abbrev s_law_draw : Stmt := top 9
abbrev N_law_draw : List Str := ["_law_held_here", "_law_many", "_law_found", "_law_at", "_law_cell", "_law_number_here"]
theorem sc_law_draw : FnScope N_law_draw ["_law_held_here", "_law_many"] (defScope s_law_draw) := ⟨rfl, rfl, rfl, by decide +kernel, rfl, by decide +kernel, by decide +kernel⟩
abbrev s_law_great : Stmt := top 10
abbrev N_law_great : List Str := ["_law_held_here", "_law_many", "_law_number_here", "_law_width"]
theorem sc_law_great : FnScope N_law_great ["_law_held_here", "_law_many"] (defScope s_law_great) := ⟨rfl, rfl, rfl, by decide +kernel, rfl, by decide +kernel, by decide +kernel⟩
abbrev s_law_number : Stmt := top 14
abbrev N_law_number : List Str := ["_law_held_here", "_law_number_here"]
theorem sc_law_number : FnScope N_law_number ["_law_held_here"] (defScope s_law_number) := ⟨rfl, rfl, rfl, by decide +kernel, rfl, by decide +kernel, by decide +kernel⟩
abbrev s_is_whole : Stmt := top 4
abbrev N_is_whole : List Str := ["thing"]
theorem sc_is_whole : FnScope N_is_whole ["thing"] (defScope s_is_whole) := ⟨rfl, rfl, rfl, by decide +kernel, rfl, by decide +kernel, by decide +kernel⟩
abbrev s_divisor : Stmt := top 5
abbrev N_divisor : List Str := ["one", "other"]
theorem sc_divisor : FnScope N_divisor ["one", "other"] (defScope s_divisor) := ⟨rfl, rfl, rfl, by decide +kernel, rfl, by decide +kernel, by decide +kernel⟩
abbrev s_Share_init : Stmt := inClass (top 6) 0
abbrev N_Share_init : List Str := ["self", "top", "bottom", "thing", "part"]
theorem sc_Share_init : FnScope N_Share_init ["self", "top", "bottom"] (defScope s_Share_init) := ⟨rfl, rfl, rfl, by decide +kernel, rfl, by decide +kernel, by decide +kernel⟩
abbrev s_law_pair : Stmt := top 13
abbrev N_law_pair : List Str := ["_law_share", "_law_part"]
theorem sc_law_pair : FnScope N_law_pair ["_law_share"] (defScope s_law_pair) := ⟨rfl, rfl, rfl, by decide +kernel, rfl, by decide +kernel, by decide +kernel⟩
abbrev s_Share_plus : Stmt := inClass (top 6) 4
abbrev N_Share_plus : List Str := ["self", "other"]
theorem sc_Share_plus : FnScope N_Share_plus ["self", "other"] (defScope s_Share_plus) := ⟨rfl, rfl, rfl, by decide +kernel, rfl, by decide +kernel, by decide +kernel⟩
abbrev s_law_add : Stmt := top 12
abbrev N_law_add : List Str := ["_law_one", "_law_other"]
theorem sc_law_add : FnScope N_law_add ["_law_one", "_law_other"] (defScope s_law_add) := ⟨rfl, rfl, rfl, by decide +kernel, rfl, by decide +kernel, by decide +kernel⟩
abbrev s_Share_times : Stmt := inClass (top 6) 6
abbrev N_Share_times : List Str := ["self", "many"]
theorem sc_Share_times : FnScope N_Share_times ["self", "many"] (defScope s_Share_times) := ⟨rfl, rfl, rfl, by decide +kernel, rfl, by decide +kernel, by decide +kernel⟩
abbrev s_Share_less : Stmt := inClass (top 6) 5
abbrev N_Share_less : List Str := ["self", "other"]
theorem sc_Share_less : FnScope N_Share_less ["self", "other"] (defScope s_Share_less) := ⟨rfl, rfl, rfl, by decide +kernel, rfl, by decide +kernel, by decide +kernel⟩
abbrev s_Share_below : Stmt := inClass (top 6) 8
abbrev N_Share_below : List Str := ["self", "other"]
theorem sc_Share_below : FnScope N_Share_below ["self", "other"] (defScope s_Share_below) := ⟨rfl, rfl, rfl, by decide +kernel, rfl, by decide +kernel, by decide +kernel⟩
abbrev s_Nought_init : Stmt := inClass (top 2) 0
abbrev N_Nought_init : List Str := ["self", "top"]
theorem sc_Nought_init : FnScope N_Nought_init ["self", "top"] (defScope s_Nought_init) := ⟨rfl, rfl, rfl, by decide +kernel, rfl, by decide +kernel, by decide +kernel⟩
abbrev s_Share_over : Stmt := inClass (top 6) 7
abbrev N_Share_over : List Str := ["self", "many"]
theorem sc_Share_over : FnScope N_Share_over ["self", "many"] (defScope s_Share_over) := ⟨rfl, rfl, rfl, by decide +kernel, rfl, by decide +kernel, by decide +kernel⟩
abbrev s_Share_whole : Stmt := inClass (top 6) 9
abbrev N_Share_whole : List Str := ["self"]
theorem sc_Share_whole : FnScope N_Share_whole ["self"] (defScope s_Share_whole) := ⟨rfl, rfl, rfl, by decide +kernel, rfl, by decide +kernel, by decide +kernel⟩
abbrev s_law_over_nought : Stmt := top 15
abbrev N_law_over_nought : List Str := ["_law_share", "_law_found", "e"]
theorem sc_law_over_nought : FnScope N_law_over_nought ["_law_share"] (defScope s_law_over_nought) := ⟨rfl, rfl, rfl, by decide +kernel, rfl, by decide +kernel, by decide +kernel⟩
abbrev s_law_both_right : Stmt := top 16
abbrev N_law_both_right : List Str := ["_law_one", "_law_other", "_law_first", "_law_second", "_law_many", "_law_below", "_law_floor"]
theorem sc_law_both_right : FnScope N_law_both_right ["_law_one", "_law_other", "_law_first", "_law_second", "_law_many"] (defScope s_law_both_right) := ⟨rfl, rfl, rfl, by decide +kernel, rfl, by decide +kernel, by decide +kernel⟩
abbrev s_law : Stmt := top 17
abbrev N_law : List Str := ["_law_script", "_law_held_here", "_law_turn", "_law_first", "_law_second", "_law_far", "_law_many", "_law_one", "_law_other", "_law_left", "_law_right", "_law_here", "_law_there"]
theorem sc_law : FnScope N_law ["_law_script"] (defScope s_law) := ⟨rfl, rfl, rfl, by decide +kernel, rfl, by decide +kernel, by decide +kernel⟩
def xcs : List Str := ["Nought"]
def cls : List Str := ["Share"]
def fa : List He.Fa := [.free "list", .glo "_law_held", .free "range", .free "abs", .free "len", .glo "_law_draw", .glo "_law_great", .glo "_law_number", .glo "_law_low", .free "int", .free "isinstance", .free "bool", .glo "is_whole", .glo "divisor", .cls "Share", .noat "Share" "top", .glo "Share", .noat "Share" "bottom", .mkr "Share", .meth "Share" "plus", .glo "_law_pair", .glo "_law_add", .meth "Share" "times", .meth "Share" "less", .meth "Share" "below", .free "ZeroDivisionError", .glo "Nought", .meth "Share" "over", .meth "Share" "whole", .glo "_law_over_nought", .glo "_law_both_right", .glo "law"]
def d_law_held : He.DefD := ⟨("_law_held", none), "_law_held", "_law_held", defArgs s_law_held, defBody s_law_held, defScope s_law_held, [], []⟩
def d_law_low : He.DefD := ⟨("_law_low", none), "_law_low", "_law_low", defArgs s_law_low, defBody s_law_low, defScope s_law_low, [], []⟩
def d_law_draw : He.DefD := ⟨("_law_draw", none), "_law_draw", "_law_draw", defArgs s_law_draw, defBody s_law_draw, defScope s_law_draw, [], []⟩
def d_law_great : He.DefD := ⟨("_law_great", none), "_law_great", "_law_great", defArgs s_law_great, defBody s_law_great, defScope s_law_great, [], []⟩
def d_law_number : He.DefD := ⟨("_law_number", none), "_law_number", "_law_number", defArgs s_law_number, defBody s_law_number, defScope s_law_number, [], []⟩
def d_is_whole : He.DefD := ⟨("is_whole", none), "is_whole", "is_whole", defArgs s_is_whole, defBody s_is_whole, defScope s_is_whole, [], []⟩
def d_divisor : He.DefD := ⟨("divisor", none), "divisor", "divisor", defArgs s_divisor, defBody s_divisor, defScope s_divisor, [], []⟩
def d_Share_init : He.DefD := ⟨("Share", some "__init__"), "__init__", "Share.__init__", defArgs s_Share_init, defBody s_Share_init, defScope s_Share_init, [.int 1], []⟩
def d_law_pair : He.DefD := ⟨("_law_pair", none), "_law_pair", "_law_pair", defArgs s_law_pair, defBody s_law_pair, defScope s_law_pair, [], []⟩
def d_Share_plus : He.DefD := ⟨("Share", some "plus"), "plus", "Share.plus", defArgs s_Share_plus, defBody s_Share_plus, defScope s_Share_plus, [], []⟩
def d_law_add : He.DefD := ⟨("_law_add", none), "_law_add", "_law_add", defArgs s_law_add, defBody s_law_add, defScope s_law_add, [], []⟩
def d_Share_times : He.DefD := ⟨("Share", some "times"), "times", "Share.times", defArgs s_Share_times, defBody s_Share_times, defScope s_Share_times, [], []⟩
def d_Share_less : He.DefD := ⟨("Share", some "less"), "less", "Share.less", defArgs s_Share_less, defBody s_Share_less, defScope s_Share_less, [], []⟩
def d_Share_below : He.DefD := ⟨("Share", some "below"), "below", "Share.below", defArgs s_Share_below, defBody s_Share_below, defScope s_Share_below, [], []⟩
def d_Nought_init : He.DefD := ⟨("Nought", some "__init__"), "__init__", "Nought.__init__", defArgs s_Nought_init, defBody s_Nought_init, defScope s_Nought_init, [], []⟩
def d_Share_over : He.DefD := ⟨("Share", some "over"), "over", "Share.over", defArgs s_Share_over, defBody s_Share_over, defScope s_Share_over, [], []⟩
def d_Share_whole : He.DefD := ⟨("Share", some "whole"), "whole", "Share.whole", defArgs s_Share_whole, defBody s_Share_whole, defScope s_Share_whole, [], []⟩
def d_law_over_nought : He.DefD := ⟨("_law_over_nought", none), "_law_over_nought", "_law_over_nought", defArgs s_law_over_nought, defBody s_law_over_nought, defScope s_law_over_nought, [], []⟩
def d_law_both_right : He.DefD := ⟨("_law_both_right", none), "_law_both_right", "_law_both_right", defArgs s_law_both_right, defBody s_law_both_right, defScope s_law_both_right, [], []⟩
def d_law : He.DefD := ⟨("law", none), "law", "law", defArgs s_law, defBody s_law, defScope s_law, [], []⟩
def fn : List He.DefD := [d_law_held, d_law_low, d_law_draw, d_law_great, d_law_number, d_is_whole, d_divisor, d_Share_init, d_law_pair, d_Share_plus, d_law_add, d_Share_times, d_Share_less, d_Share_below, d_Nought_init, d_Share_over, d_Share_whole, d_law_over_nought, d_law_both_right, d_law]
def exs : List (PySem.W.Frag → Bool) := [fun K => decide (PySem.W.findIn K (.ref (He.ga K "Share")) "__class__" = some (some (.builtin "object.__class__"))),
  fun K => decide (PySem.W.mroIn K (He.ga K "Share") (.type "object") = some true),
  fun K => decide (PySem.W.specialIn K (.builtin "object.__class__") "__get__" = some (some (.builtin "getset_descriptor.__get__"))),
  fun K => decide (PySem.W.takesIn K (.builtin "object.__class__") = some true),
  fun K => isiChk K cls,
  fun K => xclsB K "ZeroDivisionError.__new__" tl_Zero (He.ga K "Nought"),
  fun K => decide (PySem.W.takerIn K (He.ga K "Nought") "top" = some none),
  fun K => decide (PySem.W.findIn K (.ref (He.ga K "Nought")) "__init__" = some (some (.ref (He.fAd K ("Nought", some "__init__"))))),
  fun K => decide (PySem.W.typeIn K (.ref (He.fAd K ("Nought", some "__init__"))) = some (.type "function")),
  fun K => xfB K (He.ga K "Nought"),
  fun K => decide (PySem.W.findIn K (.ref (He.ga K "Nought")) "top" = some none),
  fun K => xmB K xcs]
def ex (K : PySem.W.Frag) : Bool := exs.all fun b => b K
structure Txt (K : PySem.W.Frag) (mg : Str → Option Value) : Prop where
  all : ∃ (h : Heap) (w : World), K.In h ∧ h.Ns mainGlobals mg ∧ He.SaysX fa fn [] [] ex w h K
section
variable {K : PySem.W.Frag} {mg : Str → Option Value}
theorem T_fa (T : Txt K mg) (i : Nat) {f : He.Fa} (h : fa[i]? = some f) : f.ok K = true := by
  obtain ⟨_, _, _, _, c⟩ := T.all
  exact (He.SaysT.d c.t).fact i h
theorem T_glo (T : Txt K mg) {x : Str} (i : Nat) (h : fa[i]? = some (.glo x) := by rfl) : mg x = some (.ref (He.ga K x)) := by
  obtain ⟨_, _, X, G, _⟩ := T.all
  exact He.glo_ok X G (T_fa T i h)
theorem T_free (T : Txt K mg) {x : Str} (i : Nat) (h : fa[i]? = some (.free x) := by rfl) : mg x = none := by
  obtain ⟨_, _, X, G, _⟩ := T.all
  exact He.free_ok X G (T_fa T i h)
theorem T_int (T : Txt K mg) {x : Str} {j : Int} (i : Nat) (h : fa[i]? = some (.int x j) := by rfl) : ∃ t, mg x = some (.int j t) := by
  obtain ⟨_, _, X, G, _⟩ := T.all
  exact He.int_ok X G (T_fa T i h)
theorem T_str (T : Txt K mg) {x z : Str} (i : Nat) (h : fa[i]? = some (.str x z) := by rfl) : ∃ t, mg x = some (.str z t) := by
  obtain ⟨_, _, X, G, _⟩ := T.all
  exact He.str_ok X G (T_fa T i h)
theorem T_cls (T : Txt K mg) {x : Str} (i : Nat) (h : fa[i]? = some (.cls x) := by rfl) : Cls K (He.ga K x) := He.cls_ok (T_fa T i h)
theorem T_noat (T : Txt K mg) {x f : Str} (i : Nat) (h : fa[i]? = some (.noat x f) := by rfl) : NoAttr K (He.ga K x) f := He.noat_ok (T_fa T i h)
theorem T_meth (T : Txt K mg) {x m : Str} (i : Nat) (h : fa[i]? = some (.meth x m) := by rfl) : Meth K (He.ga K x) m (He.ma K (He.ga K x) m) := He.meth_ok (T_fa T i h)
theorem T_mkr (T : Txt K mg) {x : Str} (i : Nat) (h : fa[i]? = some (.mkr x) := by rfl) : Mk K (He.ga K x) (He.ma K (He.ga K x) "__init__") := He.mkr_ok (T_fa T i h)
theorem T_ex (T : Txt K mg) {b : PySem.W.Frag → Bool} (i : Nat) (h : exs[i]? = some b := by rfl) : b K = true := by
  obtain ⟨_, _, _, _, c⟩ := T.all
  exact List.all_eq_true.mp c.more b (List.mem_of_getElem? h)
theorem T_fn (T : Txt K mg) (i : Nat) {d : He.DefD} (h : fn[i]? = some d) : FunD K d.name d.qual d.params d.body d.scope (d.dvs K) (d.kws K) (He.fAd K d.at_) (fdA K d.at_) := by
  obtain ⟨_, _, _, _, c⟩ := T.all
  obtain ⟨fd, F⟩ := (He.SaysT.d c.t).def_ i h
  rw [← fdA_eq F]
  exact F
end
section
variable {K : PySem.W.Frag} {mg : Str → Option Value}
theorem cls_Share (T : Txt K mg) : Cls K (He.ga K "Share") := T_cls T 14
theorem ty_Share (T : Txt K mg) (H : Hp) (a dx : Addr) (fs : List (Str × V)) (e : H a = some (.ins (He.ga K "Share") dx fs)) : TyX K H (.ref a) (.ref (He.ga K "Share")) :=
  .base (.ins e (cls_Share T) (of_decide_eq_true (T_ex T 0)) (of_decide_eq_true (T_ex T 2)) (of_decide_eq_true (T_ex T 3)) (of_decide_eq_true (T_ex T 1)))
theorem cls_ok (T : Txt K mg) : ClsOk K cls := clsOk_of (fun c h => by
  simp only [cls, List.mem_cons, List.not_mem_nil, or_false] at h
  rcases h with rfl
  · exact ty_Share T) (T_ex T 4)
theorem xc_Nought (T : Txt K mg) : XCls K "ZeroDivisionError.__new__" tl_Zero (He.ga K "Nought") := xcls_of (T_ex T 5)
theorem xt_Nought (T : Txt K mg) : PySem.W.takerIn K (He.ga K "Nought") "top" = some none := of_decide_eq_true (T_ex T 6)
theorem xi_Nought (T : Txt K mg) : PySem.W.findIn K (.ref (He.ga K "Nought")) "__init__" = some (some (.ref (He.fAd K ("Nought", some "__init__")))) := of_decide_eq_true (T_ex T 7)
theorem xf_Nought (T : Txt K mg) : PySem.W.typeIn K (.ref (He.fAd K ("Nought", some "__init__"))) = some (.type "function") := of_decide_eq_true (T_ex T 8)
theorem xg_Nought (T : Txt K mg) : XfC K (He.ga K "Nought") := xfB_ok (T_ex T 9)
theorem xn_Nought (T : Txt K mg) : PySem.W.findIn K (.ref (He.ga K "Nought")) "top" = some none := of_decide_eq_true (T_ex T 10)
theorem xm_ok (T : Txt K mg) : XmOk K xcs := xm_of (T_ex T 11)
theorem fo_top (T : Txt K mg) : FldOk K ["Share"] "top" := fun c h => by
  simp only [List.mem_cons, List.not_mem_nil, or_false] at h
  rcases h with rfl
  · exact ⟨cls_Share T, T_noat T 15⟩
theorem fo_bottom (T : Txt K mg) : FldOk K ["Share"] "bottom" := fun c h => by
  simp only [List.mem_cons, List.not_mem_nil, or_false] at h
  rcases h with rfl
  · exact ⟨cls_Share T, T_noat T 17⟩
theorem F_law_held (T : Txt K mg) : FunD K "_law_held" "_law_held" (defArgs s_law_held) (defBody s_law_held) (defScope s_law_held) [] [] (He.fAd K ("_law_held", none)) (fdA K ("_law_held", none)) := T_fn T 0 (d := d_law_held) rfl
theorem k_law_held (T : Txt K mg) : PySem.W.keepIn K (.ref (He.fAd K ("_law_held", none))) = true := (F_law_held T).kp
theorem b_law_held (T : Txt K mg) : Binds K (fdA K ("_law_held", none)) ["_law_script"] [] := FunD.bindsN (F_law_held T) fun _ _ _ _ _ _ us hl => match us, hl with | [_], _ => rfl
theorem F_law_low (T : Txt K mg) : FunD K "_law_low" "_law_low" (defArgs s_law_low) (defBody s_law_low) (defScope s_law_low) [] [] (He.fAd K ("_law_low", none)) (fdA K ("_law_low", none)) := T_fn T 1 (d := d_law_low) rfl
theorem k_law_low (T : Txt K mg) : PySem.W.keepIn K (.ref (He.fAd K ("_law_low", none))) = true := (F_law_low T).kp
theorem b_law_low (T : Txt K mg) : Binds K (fdA K ("_law_low", none)) ["_law_top", "_law_bottom"] [] := FunD.bindsN (F_law_low T) fun _ _ _ _ _ _ us hl => match us, hl with | [_, _], _ => rfl
theorem F_law_draw (T : Txt K mg) : FunD K "_law_draw" "_law_draw" (defArgs s_law_draw) (defBody s_law_draw) (defScope s_law_draw) [] [] (He.fAd K ("_law_draw", none)) (fdA K ("_law_draw", none)) := T_fn T 2 (d := d_law_draw) rfl
theorem k_law_draw (T : Txt K mg) : PySem.W.keepIn K (.ref (He.fAd K ("_law_draw", none))) = true := (F_law_draw T).kp
theorem b_law_draw (T : Txt K mg) : Binds K (fdA K ("_law_draw", none)) ["_law_held_here", "_law_many"] [] := FunD.bindsN (F_law_draw T) fun _ _ _ _ _ _ us hl => match us, hl with | [_, _], _ => rfl
theorem F_law_great (T : Txt K mg) : FunD K "_law_great" "_law_great" (defArgs s_law_great) (defBody s_law_great) (defScope s_law_great) [] [] (He.fAd K ("_law_great", none)) (fdA K ("_law_great", none)) := T_fn T 3 (d := d_law_great) rfl
theorem k_law_great (T : Txt K mg) : PySem.W.keepIn K (.ref (He.fAd K ("_law_great", none))) = true := (F_law_great T).kp
theorem b_law_great (T : Txt K mg) : Binds K (fdA K ("_law_great", none)) ["_law_held_here", "_law_many"] [] := FunD.bindsN (F_law_great T) fun _ _ _ _ _ _ us hl => match us, hl with | [_, _], _ => rfl
theorem F_law_number (T : Txt K mg) : FunD K "_law_number" "_law_number" (defArgs s_law_number) (defBody s_law_number) (defScope s_law_number) [] [] (He.fAd K ("_law_number", none)) (fdA K ("_law_number", none)) := T_fn T 4 (d := d_law_number) rfl
theorem k_law_number (T : Txt K mg) : PySem.W.keepIn K (.ref (He.fAd K ("_law_number", none))) = true := (F_law_number T).kp
theorem b_law_number (T : Txt K mg) : Binds K (fdA K ("_law_number", none)) ["_law_held_here"] [] := FunD.bindsN (F_law_number T) fun _ _ _ _ _ _ us hl => match us, hl with | [_], _ => rfl
theorem F_is_whole (T : Txt K mg) : FunD K "is_whole" "is_whole" (defArgs s_is_whole) (defBody s_is_whole) (defScope s_is_whole) [] [] (He.fAd K ("is_whole", none)) (fdA K ("is_whole", none)) := T_fn T 5 (d := d_is_whole) rfl
theorem k_is_whole (T : Txt K mg) : PySem.W.keepIn K (.ref (He.fAd K ("is_whole", none))) = true := (F_is_whole T).kp
theorem b_is_whole (T : Txt K mg) : Binds K (fdA K ("is_whole", none)) ["thing"] [] := FunD.bindsN (F_is_whole T) fun _ _ _ _ _ _ us hl => match us, hl with | [_], _ => rfl
theorem F_divisor (T : Txt K mg) : FunD K "divisor" "divisor" (defArgs s_divisor) (defBody s_divisor) (defScope s_divisor) [] [] (He.fAd K ("divisor", none)) (fdA K ("divisor", none)) := T_fn T 6 (d := d_divisor) rfl
theorem k_divisor (T : Txt K mg) : PySem.W.keepIn K (.ref (He.fAd K ("divisor", none))) = true := (F_divisor T).kp
theorem b_divisor (T : Txt K mg) : Binds K (fdA K ("divisor", none)) ["one", "other"] [] := FunD.bindsN (F_divisor T) fun _ _ _ _ _ _ us hl => match us, hl with | [_, _], _ => rfl
theorem F_Share_init (T : Txt K mg) : FunD K "__init__" "Share.__init__" (defArgs s_Share_init) (defBody s_Share_init) (defScope s_Share_init) [V.int 1] [] (He.fAd K ("Share", some "__init__")) (fdA K ("Share", some "__init__")) := T_fn T 7 (d := d_Share_init) rfl
theorem k_Share_init (T : Txt K mg) : PySem.W.keepIn K (.ref (He.fAd K ("Share", some "__init__"))) = true := (F_Share_init T).kp
theorem b_Share_init_3 (T : Txt K mg) : ∃ ds, Vals [] ds ∧ Binds K (fdA K ("Share", some "__init__")) ["self", "top", "bottom"] ds := FunD.binds1 (F_Share_init T) 3 1 (by intro z; cases z) rfl fun _ _ _ _ _ _ _ us its hu hi => match us, its, hu, hi with | [_, _, _], [_], _, _ => ⟨_, rfl, rfl⟩
theorem F_law_pair (T : Txt K mg) : FunD K "_law_pair" "_law_pair" (defArgs s_law_pair) (defBody s_law_pair) (defScope s_law_pair) [] [] (He.fAd K ("_law_pair", none)) (fdA K ("_law_pair", none)) := T_fn T 8 (d := d_law_pair) rfl
theorem k_law_pair (T : Txt K mg) : PySem.W.keepIn K (.ref (He.fAd K ("_law_pair", none))) = true := (F_law_pair T).kp
theorem b_law_pair (T : Txt K mg) : Binds K (fdA K ("_law_pair", none)) ["_law_share"] [] := FunD.bindsN (F_law_pair T) fun _ _ _ _ _ _ us hl => match us, hl with | [_], _ => rfl
theorem F_Share_plus (T : Txt K mg) : FunD K "plus" "Share.plus" (defArgs s_Share_plus) (defBody s_Share_plus) (defScope s_Share_plus) [] [] (He.fAd K ("Share", some "plus")) (fdA K ("Share", some "plus")) := T_fn T 9 (d := d_Share_plus) rfl
theorem k_Share_plus (T : Txt K mg) : PySem.W.keepIn K (.ref (He.fAd K ("Share", some "plus"))) = true := (F_Share_plus T).kp
theorem b_Share_plus (T : Txt K mg) : Binds K (fdA K ("Share", some "plus")) ["self", "other"] [] := FunD.bindsN (F_Share_plus T) fun _ _ _ _ _ _ us hl => match us, hl with | [_, _], _ => rfl
theorem F_law_add (T : Txt K mg) : FunD K "_law_add" "_law_add" (defArgs s_law_add) (defBody s_law_add) (defScope s_law_add) [] [] (He.fAd K ("_law_add", none)) (fdA K ("_law_add", none)) := T_fn T 10 (d := d_law_add) rfl
theorem k_law_add (T : Txt K mg) : PySem.W.keepIn K (.ref (He.fAd K ("_law_add", none))) = true := (F_law_add T).kp
theorem b_law_add (T : Txt K mg) : Binds K (fdA K ("_law_add", none)) ["_law_one", "_law_other"] [] := FunD.bindsN (F_law_add T) fun _ _ _ _ _ _ us hl => match us, hl with | [_, _], _ => rfl
theorem F_Share_times (T : Txt K mg) : FunD K "times" "Share.times" (defArgs s_Share_times) (defBody s_Share_times) (defScope s_Share_times) [] [] (He.fAd K ("Share", some "times")) (fdA K ("Share", some "times")) := T_fn T 11 (d := d_Share_times) rfl
theorem k_Share_times (T : Txt K mg) : PySem.W.keepIn K (.ref (He.fAd K ("Share", some "times"))) = true := (F_Share_times T).kp
theorem b_Share_times (T : Txt K mg) : Binds K (fdA K ("Share", some "times")) ["self", "many"] [] := FunD.bindsN (F_Share_times T) fun _ _ _ _ _ _ us hl => match us, hl with | [_, _], _ => rfl
theorem F_Share_less (T : Txt K mg) : FunD K "less" "Share.less" (defArgs s_Share_less) (defBody s_Share_less) (defScope s_Share_less) [] [] (He.fAd K ("Share", some "less")) (fdA K ("Share", some "less")) := T_fn T 12 (d := d_Share_less) rfl
theorem k_Share_less (T : Txt K mg) : PySem.W.keepIn K (.ref (He.fAd K ("Share", some "less"))) = true := (F_Share_less T).kp
theorem b_Share_less (T : Txt K mg) : Binds K (fdA K ("Share", some "less")) ["self", "other"] [] := FunD.bindsN (F_Share_less T) fun _ _ _ _ _ _ us hl => match us, hl with | [_, _], _ => rfl
theorem F_Share_below (T : Txt K mg) : FunD K "below" "Share.below" (defArgs s_Share_below) (defBody s_Share_below) (defScope s_Share_below) [] [] (He.fAd K ("Share", some "below")) (fdA K ("Share", some "below")) := T_fn T 13 (d := d_Share_below) rfl
theorem k_Share_below (T : Txt K mg) : PySem.W.keepIn K (.ref (He.fAd K ("Share", some "below"))) = true := (F_Share_below T).kp
theorem b_Share_below (T : Txt K mg) : Binds K (fdA K ("Share", some "below")) ["self", "other"] [] := FunD.bindsN (F_Share_below T) fun _ _ _ _ _ _ us hl => match us, hl with | [_, _], _ => rfl
theorem F_Nought_init (T : Txt K mg) : FunD K "__init__" "Nought.__init__" (defArgs s_Nought_init) (defBody s_Nought_init) (defScope s_Nought_init) [] [] (He.fAd K ("Nought", some "__init__")) (fdA K ("Nought", some "__init__")) := T_fn T 14 (d := d_Nought_init) rfl
theorem k_Nought_init (T : Txt K mg) : PySem.W.keepIn K (.ref (He.fAd K ("Nought", some "__init__"))) = true := (F_Nought_init T).kp
theorem b_Nought_init (T : Txt K mg) : Binds K (fdA K ("Nought", some "__init__")) ["self", "top"] [] := FunD.bindsN (F_Nought_init T) fun _ _ _ _ _ _ us hl => match us, hl with | [_, _], _ => rfl
theorem F_Share_over (T : Txt K mg) : FunD K "over" "Share.over" (defArgs s_Share_over) (defBody s_Share_over) (defScope s_Share_over) [] [] (He.fAd K ("Share", some "over")) (fdA K ("Share", some "over")) := T_fn T 15 (d := d_Share_over) rfl
theorem k_Share_over (T : Txt K mg) : PySem.W.keepIn K (.ref (He.fAd K ("Share", some "over"))) = true := (F_Share_over T).kp
theorem b_Share_over (T : Txt K mg) : Binds K (fdA K ("Share", some "over")) ["self", "many"] [] := FunD.bindsN (F_Share_over T) fun _ _ _ _ _ _ us hl => match us, hl with | [_, _], _ => rfl
theorem F_Share_whole (T : Txt K mg) : FunD K "whole" "Share.whole" (defArgs s_Share_whole) (defBody s_Share_whole) (defScope s_Share_whole) [] [] (He.fAd K ("Share", some "whole")) (fdA K ("Share", some "whole")) := T_fn T 16 (d := d_Share_whole) rfl
theorem k_Share_whole (T : Txt K mg) : PySem.W.keepIn K (.ref (He.fAd K ("Share", some "whole"))) = true := (F_Share_whole T).kp
theorem b_Share_whole (T : Txt K mg) : Binds K (fdA K ("Share", some "whole")) ["self"] [] := FunD.bindsN (F_Share_whole T) fun _ _ _ _ _ _ us hl => match us, hl with | [_], _ => rfl
theorem F_law_over_nought (T : Txt K mg) : FunD K "_law_over_nought" "_law_over_nought" (defArgs s_law_over_nought) (defBody s_law_over_nought) (defScope s_law_over_nought) [] [] (He.fAd K ("_law_over_nought", none)) (fdA K ("_law_over_nought", none)) := T_fn T 17 (d := d_law_over_nought) rfl
theorem k_law_over_nought (T : Txt K mg) : PySem.W.keepIn K (.ref (He.fAd K ("_law_over_nought", none))) = true := (F_law_over_nought T).kp
theorem b_law_over_nought (T : Txt K mg) : Binds K (fdA K ("_law_over_nought", none)) ["_law_share"] [] := FunD.bindsN (F_law_over_nought T) fun _ _ _ _ _ _ us hl => match us, hl with | [_], _ => rfl
theorem F_law_both_right (T : Txt K mg) : FunD K "_law_both_right" "_law_both_right" (defArgs s_law_both_right) (defBody s_law_both_right) (defScope s_law_both_right) [] [] (He.fAd K ("_law_both_right", none)) (fdA K ("_law_both_right", none)) := T_fn T 18 (d := d_law_both_right) rfl
theorem k_law_both_right (T : Txt K mg) : PySem.W.keepIn K (.ref (He.fAd K ("_law_both_right", none))) = true := (F_law_both_right T).kp
theorem b_law_both_right (T : Txt K mg) : Binds K (fdA K ("_law_both_right", none)) ["_law_one", "_law_other", "_law_first", "_law_second", "_law_many"] [] := FunD.bindsN (F_law_both_right T) fun _ _ _ _ _ _ us hl => match us, hl with | [_, _, _, _, _], _ => rfl
theorem F_law (T : Txt K mg) : FunD K "law" "law" (defArgs s_law) (defBody s_law) (defScope s_law) [] [] (He.fAd K ("law", none)) (fdA K ("law", none)) := T_fn T 19 (d := d_law) rfl
theorem k_law (T : Txt K mg) : PySem.W.keepIn K (.ref (He.fAd K ("law", none))) = true := (F_law T).kp
theorem b_law (T : Txt K mg) : Binds K (fdA K ("law", none)) ["_law_script"] [] := FunD.bindsN (F_law T) fun _ _ _ _ _ _ us hl => match us, hl with | [_], _ => rfl
end
end Lw
namespace Lw
open PySem PySem.Spec PyProof.Rows L2 Rt Mi
noncomputable def c_law_held : FS :=
  (fRet (fDisp [((fc (.str "cells")), (ffrz (fN opList (fcons (fSl (fvar 0) fNoPart (fPart (fc (.int 63)))) fnil)))), ((fc (.str "at")), (fc (.int 0))), ((fc (.str "left")), (fc (.int 0)))]))
noncomputable def m_law_held : Fm := body 1 1 [0] c_law_held
noncomputable def lt_law_low_1 : FT :=
  (fTest (f2 opGt (fvar 3) (fc (.int 0))))
noncomputable def lp_law_low_1 : FS :=
  (fPar2 2 3 (fcons (fvar 3) (fcons (f2 opMod (fvar 2) (fvar 3)) fnil)))
noncomputable def c_law_low : FS :=
  (fSeq (fPar2 2 3 (fcons (fN opAbs (fcons (fvar 0) fnil)) (fcons (fN opAbs (fcons (fvar 1) fnil)) fnil)))
    (fSeq (fWhile lt_law_low_1
    lp_law_low_1)
    (fSeq (fIfS (fTest (f2 opLt (fvar 1) (fc (.int 0))))
    (fSet 2 (f2 opSub (fc (.int 0)) (fvar 2))) fNext)
    (fRet (fTup (fcons (f2 opFdiv (fvar 0) (fvar 2)) (fcons (f2 opFdiv (fvar 1) (fvar 2)) fnil)))))))
noncomputable def m_law_low : Fm := body 4 2 [0, 1] c_law_low
noncomputable def c_law_draw : FS :=
  (fSeq (fIfS (fTest (f2 opGt (f2 opIx (fvar 0) (fc (.str "left"))) (fc (.int 0))))
    (fSeq (fSet 2 (f2 opMod (f2 opIx (fvar 0) (fc (.str "left"))) (fvar 1)))
    (fSeq (fAsg (gSubF (fvar 0) (fc (.str "left"))) (f2 opFdiv (f2 opIx (fvar 0) (fc (.str "left"))) (fvar 1)))
    (fRet (fvar 2)))) fNext)
    (fSeq (fSet 3 (f2 opIx (fvar 0) (fc (.str "at"))))
    (fSeq (fAsg (gSubF (fvar 0) (fc (.str "at"))) (f2 opAdd (fvar 3) (fc (.int 1))))
    (fSeq (fSet 4 (fIf (fTest (f2 opNe (f2 opIx (fvar 0) (fc (.str "cells"))) (fLst fnil))) (f2 opIx (f2 opIx (fvar 0) (fc (.str "cells"))) (f2 opMod (fvar 3) (fN opLen (fcons (f2 opIx (fvar 0) (fc (.str "cells"))) fnil)))) (fc (.int 0))))
    (fSeq (fIfS (fAnd (fTest (f2 opGe (fvar 4) (f2 opPow (fc (.int 10)) (fc (.int 18))))) (fTest (f2 opLt (fvar 3) (fN opLen (fcons (f2 opIx (fvar 0) (fc (.str "cells"))) fnil)))))
    (fSeq (fAsg (gSubF (fvar 0) (fc (.str "left"))) (f2 opFdiv (f2 opSub (fvar 4) (f2 opPow (fc (.int 10)) (fc (.int 18)))) (fvar 1)))
    (fRet (f2 opMod (f2 opSub (fvar 4) (f2 opPow (fc (.int 10)) (fc (.int 18)))) (fvar 1)))) fNext)
    (fSeq (fSet 5 (f2 opMod (f2 opAdd (f2 opAdd (f2 opAdd (f2 opMul (f2 opMod (fvar 4) (fc (.int 2147483587))) (fc (.int 40692))) (f2 opMul (f2 opMul (fc (.int 7907)) (fvar 3)) (fvar 3))) (f2 opMul (fc (.int 104729)) (fvar 3))) (fc (.int 17))) (fc (.int 2147483629))))
    (fSeq (fSet 5 (f2 opMod (f2 opAdd (f2 opAdd (f2 opMul (fvar 5) (fc (.int 48271))) (f2 opFdiv (fvar 5) (fc (.int 127)))) (fc (.int 31))) (fc (.int 2147483647))))
    (fRet (f2 opMod (f2 opFdiv (fvar 5) (fc (.int 89))) (fvar 1))))))))))
noncomputable def m_law_draw : Fm := body 6 2 [0, 1] c_law_draw
noncomputable def lt_law_great_1 : FT :=
  (fTest (f2 opLt (fvar 3) (fvar 1)))
noncomputable def lp_law_great_1 : FS :=
  (fPar2 2 3 (fcons (ffrz (f2 opAdd (f2 opMul (fvar 2) (f2 opPow (fc (.int 10)) (fc (.int 6)))) (fCall m_law_draw [] (fcons (fvar 0) (fcons (f2 opPow (fc (.int 10)) (fc (.int 6))) fnil))))) (fcons (ffrz (f2 opMul (fvar 3) (f2 opPow (fc (.int 10)) (fc (.int 6))))) fnil)))
noncomputable def c_law_great : FS :=
  (fSeq (fAsg (gT 2 [(gN 2), (gN 3)]) (fTup (fcons (fc (.int 0)) (fcons (fc (.int 1)) fnil))))
    (fSeq (fWhile lt_law_great_1
    lp_law_great_1)
    (fRet (f2 opMod (fvar 2) (fvar 1)))))
noncomputable def m_law_great : Fm := body 4 2 [0, 1] c_law_great
noncomputable def c_law_number : FS :=
  (fSeq (fSet 1 (f2 opIx (fLst (fcons (ffrz (fCall m_law_draw [] (fcons (fvar 0) (fcons (fc (.int 13)) fnil)))) (fcons (ffrz (fCall m_law_draw [] (fcons (fvar 0) (fcons (f2 opPow (fc (.int 10)) (fc (.int 6))) fnil)))) (fcons (ffrz (fCall m_law_great [] (fcons (fvar 0) (fcons (f2 opPow (fc (.int 10)) (fc (.int 30))) fnil)))) fnil)))) (fCall m_law_draw [] (fcons (fvar 0) (fcons (fc (.int 3)) fnil)))))
    (fRet (f2 opMul (fvar 1) (f2 opIx (fLst (fcons (fc (.int 1)) (fcons (fc (.int 1)) (fcons (f1 opNeg (fc (.int 1))) fnil)))) (fCall m_law_draw [] (fcons (fvar 0) (fcons (fc (.int 3)) fnil)))))))
noncomputable def m_law_number : Fm := body 2 1 [0] c_law_number
noncomputable def c_is_whole : FS :=
  (fRet (fAndV (fN (opIsi cls) (fcons (fvar 0) (fcons (fc (.ty "int")) fnil))) (f1 opNot (fN (opIsi cls) (fcons (fvar 0) (fcons (fc (.ty "bool")) fnil))))))
noncomputable def m_is_whole : Fm := body 1 1 [0] c_is_whole
noncomputable def lt_divisor_1 : FT :=
  (fTest (f2 opGt (fvar 1) (fc (.int 0))))
noncomputable def lp_divisor_1 : FS :=
  (fPar2 0 1 (fcons (fvar 1) (fcons (f2 opMod (fvar 0) (fvar 1)) fnil)))
noncomputable def c_divisor : FS :=
  (fSeq (fPar2 0 1 (fcons (fN opAbs (fcons (fvar 0) fnil)) (fcons (fN opAbs (fcons (fvar 1) fnil)) fnil)))
    (fSeq (fWhile lt_divisor_1
    lp_divisor_1)
    (fRet (fvar 0))))
noncomputable def m_divisor : Fm := body 2 2 [] c_divisor
noncomputable def lp_Share_init_1 : FS :=
  (fIfS (fNot (fTrv (fCall m_is_whole [] (fcons (fvar 3) fnil))))
    fNever fNext)
noncomputable def c_Share_init : FS :=
  (fSeq (fFor (iSeqF (fTup (fcons (fvar 1) (fcons (fvar 2) fnil)))) (gN 3)
    lp_Share_init_1)
    (fSeq (fIfS (fTest (f2 opEq (fvar 2) (fc (.int 0))))
    fNever fNext)
    (fSeq (fSet 4 (ffrz (fCall m_divisor [] (fcons (fvar 1) (fcons (fvar 2) fnil)))))
    (fSeq (fIfS (fTest (f2 opLt (fvar 2) (fc (.int 0))))
    (fSet 4 (f2 opSub (fc (.int 0)) (fvar 4))) fNext)
    (fSeq (fSFld ["Share"] "top" (fvar 0) (f2 opFdiv (fvar 1) (fvar 4)))
    (fSFld ["Share"] "bottom" (fvar 0) (f2 opFdiv (fvar 2) (fvar 4))))))))
noncomputable def m_Share_init : Fm := body 5 3 [0, 1, 2] c_Share_init
noncomputable def lp_law_pair_1 : FS :=
  (fIfS (fOr (fNot (fTrv (fN (opIsi cls) (fcons (fvar 1) (fcons (fc (.ty "int")) fnil))))) (fTrv (fN (opIsi cls) (fcons (fvar 1) (fcons (fc (.ty "bool")) fnil)))))
    (fRet (fc .non)) fNext)
noncomputable def c_law_pair : FS :=
  (fSeq (fIfS (fNot (fTrv (fN (opIsi cls) (fcons (fvar 0) (fcons (fc (.obj "Share")) fnil)))))
    (fRet (fc .non)) fNext)
    (fSeq (fFor (iSeqF (fTup (fcons (f1 (opFld ["Share"] "top") (fvar 0)) (fcons (f1 (opFld ["Share"] "bottom") (fvar 0)) fnil)))) (gN 1)
    lp_law_pair_1)
    (fRet (fTup (fcons (f1 (opFld ["Share"] "top") (fvar 0)) (fcons (f1 (opFld ["Share"] "bottom") (fvar 0)) fnil))))))
noncomputable def m_law_pair : Fm := body 2 1 [0] c_law_pair
noncomputable def c_Share_plus : FS :=
  (fRet (ffrz (fMake "Share" .o1 m_Share_init [] (fcons (ffrz (f2 opAdd (f2 opMul (f1 (opFld ["Share"] "top") (fvar 0)) (f1 (opFld ["Share"] "bottom") (fvar 1))) (f2 opMul (f1 (opFld ["Share"] "top") (fvar 1)) (f1 (opFld ["Share"] "bottom") (fvar 0))))) (fcons (ffrz (f2 opMul (f1 (opFld ["Share"] "bottom") (fvar 0)) (f1 (opFld ["Share"] "bottom") (fvar 1)))) fnil)))))
noncomputable def m_Share_plus : Fm := body 2 2 [0, 1] c_Share_plus
noncomputable def c_law_add : FS :=
  (fRet (fCall m_law_low [] (fcons (ffrz (f2 opAdd (f2 opMul (f2 opIx (fvar 0) (fc (.int 0))) (f2 opIx (fvar 1) (fc (.int 1)))) (f2 opMul (f2 opIx (fvar 1) (fc (.int 0))) (f2 opIx (fvar 0) (fc (.int 1)))))) (fcons (ffrz (f2 opMul (f2 opIx (fvar 0) (fc (.int 1))) (f2 opIx (fvar 1) (fc (.int 1))))) fnil))))
noncomputable def m_law_add : Fm := body 2 2 [0, 1] c_law_add
noncomputable def c_Share_times : FS :=
  (fRet (ffrz (fMake "Share" .o1 m_Share_init [] (fcons (ffrz (f2 opMul (f1 (opFld ["Share"] "top") (fvar 0)) (fvar 1))) (fcons (f1 (opFld ["Share"] "bottom") (fvar 0)) fnil)))))
noncomputable def m_Share_times : Fm := body 2 2 [0, 1] c_Share_times
noncomputable def c_Share_less : FS :=
  (fRet (fMeth "Share" "plus" m_Share_plus [] (fvar 0) (fcons (ffrz (fMeth "Share" "times" m_Share_times [] (fvar 1) (fcons (f1 opNeg (fc (.int 1))) fnil))) fnil)))
noncomputable def m_Share_less : Fm := body 2 2 [0, 1] c_Share_less
noncomputable def c_Share_below : FS :=
  (fRet (f2 opLt (f2 opMul (f1 (opFld ["Share"] "top") (fvar 0)) (f1 (opFld ["Share"] "bottom") (fvar 1))) (f2 opMul (f1 (opFld ["Share"] "top") (fvar 1)) (f1 (opFld ["Share"] "bottom") (fvar 0)))))
noncomputable def m_Share_below : Fm := body 2 2 [0, 1] c_Share_below

noncomputable def c_Share_over : FS :=
  (fSeq (fIfS (fTest (f2 opEq (fvar 1) (fc (.int 0))))
    (fRaise "Nought" "top" (f1 (opFld ["Share"] "top") (fvar 0))) fNext)
    (fRet (ffrz (fMake "Share" .o1 m_Share_init [] (fcons (f1 (opFld ["Share"] "top") (fvar 0)) (fcons (ffrz (f2 opMul (f1 (opFld ["Share"] "bottom") (fvar 0)) (fvar 1))) fnil))))))
noncomputable def m_Share_over : Fm := body 2 2 [0, 1] c_Share_over
noncomputable def c_Share_whole : FS :=
  (fRet (f2 opFdiv (f1 (opFld ["Share"] "top") (fvar 0)) (f1 (opFld ["Share"] "bottom") (fvar 0))))
noncomputable def m_Share_whole : Fm := body 1 1 [0] c_Share_whole
noncomputable def c_law_over_nought : FS :=
  (fSeq (fSet 1 (fc .non))
    (fSeq (fTryAs xcs "Nought" 2
    (fDrop (fMeth "Share" "over" m_Share_over [] (fvar 0) (fcons (fc (.int 0)) fnil))) (fun fs => fSeq (fXf "top" 1 fs) ((fun _ => fNext) fs)))
    (fRet (fvar 1))))
noncomputable def m_law_over_nought : Fm := body 3 1 [0] c_law_over_nought
noncomputable def c_law_both_right : FS :=
  (fSeq (fIfS (fTest (f2 opNe (fCall m_law_pair [] (fcons (ffrz (fMeth "Share" "plus" m_Share_plus [] (fvar 0) (fcons (fvar 1) fnil))) fnil)) (fCall m_law_add [] (fcons (fvar 2) (fcons (fvar 3) fnil)))))
    (fRet (fc (.bl false))) fNext)
    (fSeq (fIfS (fTest (f2 opNe (fCall m_law_pair [] (fcons (ffrz (fMeth "Share" "less" m_Share_less [] (fvar 0) (fcons (fvar 1) fnil))) fnil)) (fCall m_law_add [] (fcons (fvar 2) (fcons (fTup (fcons (f2 opSub (fc (.int 0)) (f2 opIx (fvar 3) (fc (.int 0)))) (fcons (f2 opIx (fvar 3) (fc (.int 1))) fnil))) fnil)))))
    (fRet (fc (.bl false))) fNext)
    (fSeq (fIfS (fTest (f2 opNe (fCall m_law_pair [] (fcons (ffrz (fMeth "Share" "times" m_Share_times [] (fvar 0) (fcons (fvar 4) fnil))) fnil)) (fCall m_law_low [] (fcons (ffrz (f2 opMul (f2 opIx (fvar 2) (fc (.int 0))) (fvar 4))) (fcons (f2 opIx (fvar 2) (fc (.int 1))) fnil)))))
    (fRet (fc (.bl false))) fNext)
    (fSeq (fSet 5 (ffrz (fMeth "Share" "below" m_Share_below [] (fvar 0) (fcons (fvar 1) fnil))))
    (fSeq (fIfS (fOr (fNot (fTrv (fN (opIsi cls) (fcons (fvar 5) (fcons (fc (.ty "bool")) fnil))))) (fTest (f2 opNe (fvar 5) (f2 opLt (f2 opMul (f2 opIx (fvar 2) (fc (.int 0))) (f2 opIx (fvar 3) (fc (.int 1)))) (f2 opMul (f2 opIx (fvar 3) (fc (.int 0))) (f2 opIx (fvar 2) (fc (.int 1))))))))
    (fRet (fc (.bl false))) fNext)
    (fSeq (fIfS (fAnd (fTest (f2 opNe (fvar 4) (fc (.int 0)))) (fTest (f2 opNe (fCall m_law_pair [] (fcons (ffrz (fMeth "Share" "over" m_Share_over [] (fvar 0) (fcons (fvar 4) fnil))) fnil)) (fCall m_law_low [] (fcons (f2 opIx (fvar 2) (fc (.int 0))) (fcons (ffrz (f2 opMul (f2 opIx (fvar 2) (fc (.int 1))) (fvar 4))) fnil))))))
    (fRet (fc (.bl false))) fNext)
    (fSeq (fSet 6 (ffrz (fMeth0 "Share" "whole" m_Share_whole [] (fvar 0))))
    (fSeq (fIfS (fOr (fNot (fTrv (fN (opIsi cls) (fcons (fvar 6) (fcons (fc (.ty "int")) fnil))))) (fTrv (fN (opIsi cls) (fcons (fvar 6) (fcons (fc (.ty "bool")) fnil)))))
    (fRet (fc (.bl false))) fNext)
    (fRet (fAndV (fChain opLe opLt (f2 opMul (fvar 6) (f2 opIx (fvar 2) (fc (.int 1)))) (f2 opIx (fvar 2) (fc (.int 0))) (f2 opMul (f2 opAdd (fvar 6) (fc (.int 1))) (f2 opIx (fvar 2) (fc (.int 1))))) (f2 opEq (fCall m_law_over_nought [] (fcons (fvar 0) fnil)) (f2 opIx (fvar 2) (fc (.int 0))))))))))))))
noncomputable def m_law_both_right : Fm := body 7 5 [0, 1, 2, 3, 4] c_law_both_right
noncomputable def lp_law_1 : FS :=
  (fIfS (fNot (fTrv (fCall m_law_both_right [] (fcons (fvar 9) (fcons (fvar 10) (fcons (fvar 11) (fcons (fvar 12) (fcons (fvar 6) fnil))))))))
    (fRet (fc (.bl false))) fNext)
noncomputable def lp_law_2 : FS :=
  (fSeq (fSet 3 (ffrz (fCall m_law_low [] (fcons (ffrz (fCall m_law_number [] (fcons (fvar 1) fnil))) (fcons (ffrz (fOrV (fCall m_law_number [] (fcons (fvar 1) fnil)) (fc (.int 1)))) fnil)))))
    (fSeq (fSet 4 (ffrz (fCall m_law_low [] (fcons (ffrz (fCall m_law_number [] (fcons (fvar 1) fnil))) (fcons (ffrz (fOrV (fCall m_law_number [] (fcons (fvar 1) fnil)) (fc (.int 1)))) fnil)))))
    (fSeq (fIfS (fTest (f2 opEq (fCall m_law_draw [] (fcons (fvar 1) (fcons (fc (.int 4)) fnil))) (fc (.int 0))))
    (fSet 4 (fIf (fTest (f2 opEq (f2 opIx (fCall m_law_low [] (fcons (f2 opIx (fvar 4) (fc (.int 0))) (fcons (f2 opIx (fvar 3) (fc (.int 1))) fnil))) (fc (.int 1))) (f2 opIx (fvar 3) (fc (.int 1))))) (fTup (fcons (f2 opIx (fvar 4) (fc (.int 0))) (fcons (f2 opIx (fvar 3) (fc (.int 1))) fnil))) (fvar 3))) fNext)
    (fSeq (fIfS (fTest (f2 opEq (fCall m_law_draw [] (fcons (fvar 1) (fcons (fc (.int 5)) fnil))) (fc (.int 0))))
    (fSeq (fSet 5 (ffrz (f2 opAdd (f2 opPow (fc (.int 10)) (fc (.int 28))) (fCall m_law_draw [] (fcons (fvar 1) (fcons (f2 opPow (fc (.int 10)) (fc (.int 6))) fnil))))))
    (fPar2 3 4 (fcons (fTup (fcons (f2 opSub (fvar 5) (fc (.int 1))) (fcons (fvar 5) fnil))) (fcons (fTup (fcons (fvar 5) (fcons (f2 opAdd (fvar 5) (fc (.int 1))) fnil))) fnil)))) fNext)
    (fSeq (fSet 6 (ffrz (fCall m_law_number [] (fcons (fvar 1) fnil))))
    (fSeq (fPar2 7 8 (fcons (ffrz (fMake "Share" .o1 m_Share_init [] (fcons (f2 opIx (fvar 3) (fc (.int 0))) (fcons (f2 opIx (fvar 3) (fc (.int 1))) fnil)))) (fcons (ffrz (fMake "Share" .o1 m_Share_init [] (fcons (f2 opIx (fvar 4) (fc (.int 0))) (fcons (f2 opIx (fvar 4) (fc (.int 1))) fnil)))) fnil)))
    (fSeq (fFor (iSeqF (fLst (fcons (fTup (fcons (fvar 7) (fcons (fvar 8) (fcons (fvar 3) (fcons (fvar 4) fnil))))) (fcons (fTup (fcons (fvar 8) (fcons (fvar 7) (fcons (fvar 4) (fcons (fvar 3) fnil))))) (fcons (fTup (fcons (fvar 7) (fcons (fvar 7) (fcons (fvar 3) (fcons (fvar 3) fnil))))) fnil))))) (gT 4 [(gN 9), (gN 10), (gN 11), (gN 12)])
    lp_law_1)
    (fIfS (fOr (fTest (f2 opNe (fCall m_law_pair [] (fcons (fvar 7) fnil)) (fvar 3))) (fTest (f2 opNe (fCall m_law_pair [] (fcons (fvar 8) fnil)) (fvar 4))))
    (fRet (fc (.bl false))) fNext))))))))
noncomputable def c_law : FS :=
  (fSeq (fSet 1 (fCall m_law_held [] (fcons (fvar 0) fnil)))
    (fSeq (fFor (iRngF (fcons (fc (.int 7)) fnil)) (gN 2)
    lp_law_2)
    (fRet (fc (.bl true)))))
noncomputable def m_law : Fm := body 13 1 [0] c_law
end Lw

namespace Lw
open PySem PySem.Spec PyProof.Rows L2 Rt Mi
/-! how functions are reckoned -/
local macro_rules | `(tactic| walk_at "ev") => `(tactic| simp (config := { maxSteps := 4000000 }) only [e_bo, e_bs, e_be, e_oo, e_os, e_oe, e_qn, e_qr, e_qb, e_qc, e_qe, e_qs, e_ln, e_lr, e_lb, e_lc, e_le, e_ls, e_seq, e_next, e_drop, e_ret, e_retN, e_break, e_cont, e_ifS, e_cifS, e_never, e_set, e_cset, e_kset, e_setf, e_seto, e_setu, e_seta, e_kf, e_ko, e_ku, e_ka, e_asg, e_casg, e_gN, e_gT, e_gT1, e_gs0, e_gs1, e_par, e_cpar, e_kparF, e_for, e_for0, e_for1, e_cfor, e_iseq, e_iseqL, e_iseqT, e_irng, e_rng1, e_rng2, e_vr, e_vf, e_vo, e_va, e_vu, e_vn, e_cc, e_nil, e_cons, e_ccons, e_ccons2, e_valf, e_valo, e_vala, e_alf, e_alo, e_vl0, e_vl1, e_orS, e_orN, e_f1, e_ck1, e_cf2, e_ck2, e_ckN, e_f2, e_fN, e_k1, e_k2, e_kN, e_fz, e_cfrz, e_kff, e_kfo, e_kfa, e_kfzo, e_kfzf, e_fl0, e_flf, e_flo, e_tup, e_lst, e_kdt, e_kdl, e_test, e_trv, e_kt, e_bl, e_tb, e_ti, e_tn, e_tl, e_tt, e_and, e_cand, e_cor, e_cif, e_or, e_not, e_if, e_yes, e_andV, e_candV, e_corV, e_orV, e_ktru, e_avt, e_avf, e_ovt, e_ovf, e_add, e_addL, e_sub, e_mul, e_fdiv, e_mod, e_pow, e_lt, e_opLe, e_gt, e_ge, e_neg, e_opNot, e_abs, e_lenL, e_lenT, e_list, e_listT, e_tupL, e_tupT, e_eq, e_ne, e_eqI, e_eqS, e_isN, e_isnN, e_ixL, e_ixT, e_ixD, e_keyI, e_keyS, e_partZ, e_partO, e_flZ, e_flO, e_sl, e_csl1, e_csl2, e_csl3, e_noP, e_part, e_kpart, e_ksl, e_slL, e_slS, e_disp, e_cdisp, e_pairs0, e_pairs1, e_cps1, e_cps2, e_cps3, e_kdispD, e_kdD, e_kv0, e_kv1, e_dnew, e_isiT, e_isiO, e_kdN, e_kdB, e_kdI, e_kdS, e_kdT, e_kdL, e_kdK, e_kdX, e_is1, e_is2, e_is3, e_is4, e_bint, e_bbool, e_bstr, e_btup, e_blst, e_bdic, e_fld, e_sfld, e_csf1, e_csf2, e_ksfld, e_ksf, e_put0, e_put1, e_gSub, e_gS1, e_cst1, e_cst2, e_kst, e_kst1, e_kst2, e_stD, e_call, e_ccall, e_call0, e_kcall, e_kc1, e_kc2, e_kc2e, e_kc2s, e_kc3, e_le0, e_lef, e_leo, e_lea, e_leao, e_leaf, e_ba0, e_ba1, e_baf, e_bao, e_baa, e_baz, e_bau, e_bag, e_ref, e_reo, e_reu, e_rea, e_reao, e_reaf, e_na0, e_naf, e_nao, e_nau, e_meth, e_cmeth, e_cmeth2, e_meth0, e_kmeth, e_km1, e_make, e_cmake, e_mkM, e_mk1, e_mk1e, e_callN, e_ckw1, e_ckw2, e_kcallK, e_pl0, e_plf, e_pla, e_pick0, e_pick1, e_comp, e_ccomp, e_crest, e_kcomp, e_cD0, e_cD1, e_cDn, e_cD3, e_cD2, e_nox, e_wi0, e_wi1, e_rs0, e_rs1, e_okW, e_okWu, e_okWf, e_body, e_fin, e_fir, e_fie, e_fis, e_frf, e_fro, e_fra, e_fif, e_fio, e_ou0, e_ou1, e_ouf, e_ouo, e_ouu, e_oua, e_oug, e_getK0, e_getK1, e_putD, e_atI0, e_atI1, e_atI2, e_atI3, e_raise, e_craise, e_krf, e_kro, e_try, e_tryn, e_tryr, e_tryb, e_tryc, e_trye, e_wn, e_wb, e_wc, e_wr, e_xf, e_xf1, e_chn, e_ch1, e_ch2, e_ch3, e_ch4,
  Option.bind_some, Option.bind_none, Option.map_some, Option.map_none, Option.getD_some, Option.getD_none, Option.toList_some, Option.isNone_none, Option.isNone_some,
  List.getElem?_cons_zero, List.getElem?_cons_succ, List.getElem?_nil, List.set_cons_zero, List.set_cons_succ, List.set_nil, List.map_cons, List.map_nil, List.length_cons, List.length_nil, List.nil_append, List.cons_append, List.append_nil, List.replicate_succ, List.replicate_zero, List.take_succ_cons, List.take_zero, List.take_nil, List.mem_cons, List.not_mem_nil, List.all_cons, List.all_nil, List.any_cons, List.any_nil, List.lookup_cons, List.lookup_nil, List.nodup_cons, List.nodup_nil,
  Nat.zero_add, Nat.add_zero, Nat.reduceAdd, Nat.reduceSub, Nat.reduceLT, Nat.reduceLeDiff, Nat.reduceEqDiff, Nat.reduceBEq, Nat.zero_le, Nat.succ_ne_zero, Nat.zero_ne_one, Nat.one_ne_zero, Nat.lt_irrefl, Int.lt_irrefl, Int.reduceLT, Int.reduceLE, Int.reduceEq, Int.reduceNe, Int.reduceAdd, Int.reduceSub, Int.reduceNeg, Int.reduceMul, Int.reduceToNat, Int.cast_ofNat_Int, Int.natCast_zero, Int.natCast_one, Int.reducePow, if_true, if_false, reduceIte, reduceCtorEq, or_false, or_true, true_or, false_or, and_true, true_and, and_false, false_and, and_self, decide_true, decide_false, decide_eq_true_eq, Bool.not_true, Bool.not_false, Bool.and_true, Bool.true_and, Bool.and_false, Bool.false_and, Bool.and_self, Bool.or_true, Bool.true_or, Bool.or_false, Bool.false_or, not_true_eq_false, not_false_eq_true, Bool.false_eq_true, Bool.true_eq_false, Bool.not_eq_eq_eq_not, Bool.bne_false, not_true, not_false_iff,
  sz0, sz1, sz2, sz3, sz4, sz5, sz6, sz7, sz8, sz9, sz10, sz11, sz12, sz13, sz14, sz15, sy0, sy1, sy2, sy3, sy4, sy5, sy6, sy7, sy8, sy9, sy10, sy11, sy12, sy13, sy14, sy15, String.reduceEq, String.reduceBEq, str_eq, str_beq, Sum.inr.injEq, Sum.inl.injEq, beq_self_eq_true, ne_eq, eq_self, Bool.not_eq_true, decide_not, Bt.isi, Decidable.not_not, cls, xcs])
local macro_rules | `(tactic| walk_at "ev*") => `(tactic| simp (config := { maxSteps := 4000000 }) only [e_bo, e_bs, e_be, e_oo, e_os, e_oe, e_qn, e_qr, e_qb, e_qc, e_qe, e_qs, e_ln, e_lr, e_lb, e_lc, e_le, e_ls, e_seq, e_next, e_drop, e_ret, e_retN, e_break, e_cont, e_ifS, e_cifS, e_never, e_set, e_cset, e_kset, e_setf, e_seto, e_setu, e_seta, e_kf, e_ko, e_ku, e_ka, e_asg, e_casg, e_gN, e_gT, e_gT1, e_gs0, e_gs1, e_par, e_cpar, e_kparF, e_for, e_for0, e_for1, e_cfor, e_iseq, e_iseqL, e_iseqT, e_irng, e_rng1, e_rng2, e_vr, e_vf, e_vo, e_va, e_vu, e_vn, e_cc, e_nil, e_cons, e_ccons, e_ccons2, e_valf, e_valo, e_vala, e_alf, e_alo, e_vl0, e_vl1, e_orS, e_orN, e_f1, e_ck1, e_cf2, e_ck2, e_ckN, e_f2, e_fN, e_k1, e_k2, e_kN, e_fz, e_cfrz, e_kff, e_kfo, e_kfa, e_kfzo, e_kfzf, e_fl0, e_flf, e_flo, e_tup, e_lst, e_kdt, e_kdl, e_test, e_trv, e_kt, e_bl, e_tb, e_ti, e_tn, e_tl, e_tt, e_and, e_cand, e_cor, e_cif, e_or, e_not, e_if, e_yes, e_andV, e_candV, e_corV, e_orV, e_ktru, e_avt, e_avf, e_ovt, e_ovf, e_add, e_addL, e_sub, e_mul, e_fdiv, e_mod, e_pow, e_lt, e_opLe, e_gt, e_ge, e_neg, e_opNot, e_abs, e_lenL, e_lenT, e_list, e_listT, e_tupL, e_tupT, e_eq, e_ne, e_eqI, e_eqS, e_isN, e_isnN, e_ixL, e_ixT, e_ixD, e_keyI, e_keyS, e_partZ, e_partO, e_flZ, e_flO, e_sl, e_csl1, e_csl2, e_csl3, e_noP, e_part, e_kpart, e_ksl, e_slL, e_slS, e_disp, e_cdisp, e_pairs0, e_pairs1, e_cps1, e_cps2, e_cps3, e_kdispD, e_kdD, e_kv0, e_kv1, e_dnew, e_isiT, e_isiO, e_kdN, e_kdB, e_kdI, e_kdS, e_kdT, e_kdL, e_kdK, e_kdX, e_is1, e_is2, e_is3, e_is4, e_bint, e_bbool, e_bstr, e_btup, e_blst, e_bdic, e_fld, e_sfld, e_csf1, e_csf2, e_ksfld, e_ksf, e_put0, e_put1, e_gSub, e_gS1, e_cst1, e_cst2, e_kst, e_kst1, e_kst2, e_stD, e_call, e_ccall, e_call0, e_kcall, e_kc1, e_kc2, e_kc2e, e_kc2s, e_kc3, e_le0, e_lef, e_leo, e_lea, e_leao, e_leaf, e_ba0, e_ba1, e_baf, e_bao, e_baa, e_baz, e_bau, e_bag, e_ref, e_reo, e_reu, e_rea, e_reao, e_reaf, e_na0, e_naf, e_nao, e_nau, e_meth, e_cmeth, e_cmeth2, e_meth0, e_kmeth, e_km1, e_make, e_cmake, e_mkM, e_mk1, e_mk1e, e_callN, e_ckw1, e_ckw2, e_kcallK, e_pl0, e_plf, e_pla, e_pick0, e_pick1, e_comp, e_ccomp, e_crest, e_kcomp, e_cD0, e_cD1, e_cDn, e_cD3, e_cD2, e_nox, e_wi0, e_wi1, e_rs0, e_rs1, e_okW, e_okWu, e_okWf, e_body, e_fin, e_fir, e_fie, e_fis, e_frf, e_fro, e_fra, e_fif, e_fio, e_ou0, e_ou1, e_ouf, e_ouo, e_ouu, e_oua, e_oug, e_getK0, e_getK1, e_putD, e_atI0, e_atI1, e_atI2, e_atI3, e_raise, e_craise, e_krf, e_kro, e_try, e_tryn, e_tryr, e_tryb, e_tryc, e_trye, e_wn, e_wb, e_wc, e_wr, e_xf, e_xf1, e_chn, e_ch1, e_ch2, e_ch3, e_ch4,
  Option.bind_some, Option.bind_none, Option.map_some, Option.map_none, Option.getD_some, Option.getD_none, Option.toList_some, Option.isNone_none, Option.isNone_some,
  List.getElem?_cons_zero, List.getElem?_cons_succ, List.getElem?_nil, List.set_cons_zero, List.set_cons_succ, List.set_nil, List.map_cons, List.map_nil, List.length_cons, List.length_nil, List.nil_append, List.cons_append, List.append_nil, List.replicate_succ, List.replicate_zero, List.take_succ_cons, List.take_zero, List.take_nil, List.mem_cons, List.not_mem_nil, List.all_cons, List.all_nil, List.any_cons, List.any_nil, List.lookup_cons, List.lookup_nil, List.nodup_cons, List.nodup_nil,
  Nat.zero_add, Nat.add_zero, Nat.reduceAdd, Nat.reduceSub, Nat.reduceLT, Nat.reduceLeDiff, Nat.reduceEqDiff, Nat.reduceBEq, Nat.zero_le, Nat.succ_ne_zero, Nat.zero_ne_one, Nat.one_ne_zero, Nat.lt_irrefl, Int.lt_irrefl, Int.reduceLT, Int.reduceLE, Int.reduceEq, Int.reduceNe, Int.reduceAdd, Int.reduceSub, Int.reduceNeg, Int.reduceMul, Int.reduceToNat, Int.cast_ofNat_Int, Int.natCast_zero, Int.natCast_one, Int.reducePow, if_true, if_false, reduceIte, reduceCtorEq, or_false, or_true, true_or, false_or, and_true, true_and, and_false, false_and, and_self, decide_true, decide_false, decide_eq_true_eq, Bool.not_true, Bool.not_false, Bool.and_true, Bool.true_and, Bool.and_false, Bool.false_and, Bool.and_self, Bool.or_true, Bool.true_or, Bool.or_false, Bool.false_or, not_true_eq_false, not_false_eq_true, Bool.false_eq_true, Bool.true_eq_false, Bool.not_eq_eq_eq_not, Bool.bne_false, not_true, not_false_iff,
  sz0, sz1, sz2, sz3, sz4, sz5, sz6, sz7, sz8, sz9, sz10, sz11, sz12, sz13, sz14, sz15, sy0, sy1, sy2, sy3, sy4, sy5, sy6, sy7, sy8, sy9, sy10, sy11, sy12, sy13, sy14, sy15, String.reduceEq, String.reduceBEq, str_eq, str_beq, Sum.inr.injEq, Sum.inl.injEq, beq_self_eq_true, ne_eq, eq_self, Bool.not_eq_true, decide_not, Bt.isi, Decidable.not_not, cls, xcs, *])
--!
--!
abbrev Dull (v : Sl) : Prop := ∀ i, Sl.kill i v = v
theorem fm_nonneg {a m : Int} (h : 0 < m) : 0 ≤ a.fmod m ∧ a.fmod m < m := by
  rw [Int.fmod_eq_emod_of_nonneg _ (by omega)]
  exact ⟨Int.emod_nonneg _ (by omega), Int.emod_lt_of_pos _ h⟩
theorem fd_nonneg {a m : Int} (h0 : 0 ≤ a) (h : 0 < m) : 0 ≤ a.fdiv m := by
  rw [Int.fdiv_eq_ediv_of_nonneg _ (by omega)]
  exact Int.ediv_nonneg h0 (by omega)
theorem divP {i j : Int} (h : 0 < j) (hb : j < 2 ^ 30) : CDivZ i j := divZ (b := 30) (by omega) (by omega) (by decide) (by decide)
/-- the dict of a script that is drawn from -/
abbrev penD (cs : List Int) (a l : Int) : D := .dk [(.inr "cells", .lst (cs.map .int)), (.inr "at", .int a), (.inr "left", .int l)]
def PenOk (n : Nat) (d : D) : Prop := ∃ cs a l, d = penD cs a l ∧ 0 ≤ a ∧ a ≤ n ∧ 0 ≤ l
theorem q_held (ns : List Int) : ∃ d, PenOk 0 d ∧ m_law_held [.fz (.scr ns)] = .ret (.ow .o1 d) [.fz (.scr ns)] := by
  refine ⟨_, ⟨cutD ns none (some 63), 0, 0, rfl, by decide, by decide, by decide⟩, ?_⟩
  unfold m_law_held c_law_held
  walk_at "ev"
theorem toPDs_ints : ∀ cs : List Int, toPDs (cs.map .int) = some (cs.map PyData.int)
  | [] => rfl
  | c :: r => by
    show (toPD (.int c)).bind _ = _
    rw [toPDs_ints r]
    rfl
theorem e_neNil (cs : List Int) : eqD (.lst (cs.map .int)) (.lst []) = some cs.isEmpty := by
  show ((toPDs (cs.map .int)).map PyData.list).bind (fun a => ((toPDs []).map PyData.list).bind fun b => if (SeqAt.shaped a && SeqAt.shaped b) = true then some (PyData.eqv a b) else none) = _
  rw [toPDs_ints]
  have e : toPDs [] = some [] := rfl
  rw [e]
  simp only [Option.map_some, Option.bind_some]
  have h2 : SeqAt.shaped (.list []) = true := by decide +kernel
  rw [sh_ints, h2, eqv_nil]
  rfl
def DrawOk (n : Nat) (m : Int) (o : Fo) : Prop := ∃ r d', o = .ret (.fz (.int r)) [.ow .o1 d', .fz (.int m)] ∧ 0 ≤ r ∧ r < m ∧ PenOk n d'
theorem q_draw {n : Nat} {d : D} {m : Int} (h : PenOk n d) (hn : n ≤ 2 ^ 40) (m0 : 0 < m) (m1 : m < 2 ^ 30) : DrawOk (n + 1) m (m_law_draw [.ow .o1 d, .fz (.int m)]) := by
  obtain ⟨cs, a, l, rfl, ha0, ha1, hl0⟩ := h
  have hm : ¬ m = 0 := by omega
  have d3 : ∀ y, CDivZ y m := fun y => divP m0 m1
  have fin : ∀ (x l' : Int), 0 ≤ l' → DrawOk (n + 1) m (.ret (.fz (.int (x.fmod m))) [.ow .o1 (penD cs (a + 1) l'), .fz (.int m)]) := fun x l' hl' =>
    ⟨_, _, rfl, (fm_nonneg m0).1, (fm_nonneg m0).2, cs, a + 1, l', rfl, by omega, by omega, hl'⟩
  by_cases hl : 0 < l
  · unfold m_law_draw c_law_draw
    have : DrawOk (n + 1) m (.ret (.fz (.int (l.fmod m))) [.ow .o1 (penD cs a (l.fdiv m)), .fz (.int m)]) :=
      ⟨_, _, rfl, (fm_nonneg m0).1, (fm_nonneg m0).2, cs, a, _, rfl, ha0, by omega, fd_nonneg hl0 m0⟩
    clear ha0 ha1 hl0 hn m0 m1 fin
    walk_at "ev*"
  have z1 : ∀ c : Int, CMulW (c.fmod 2147483587) 40692 := fun c => by
    have := fm_nonneg (a := c) (m := 2147483587) (by decide)
    exact mulW (n := 32) (m := 16) (by omega) (by decide) (by decide)
  have z2 : CMulW 7907 a := mulW (n := 13) (m := 41) (by decide) (by omega) (by decide)
  have z3 : CMulW (7907 * a) a := mulW (n := 54) (m := 41) (by omega) (by omega) (by decide)
  have z4 : CMulW 104729 a := mulW (n := 17) (m := 41) (by decide) (by omega) (by decide)
  have z5 : ∀ c : Int, CMulW (c.fmod 2147483629) 48271 := fun c => by
    have := fm_nonneg (a := c) (m := 2147483629) (by decide)
    exact mulW (n := 31) (m := 16) (by omega) (by decide) (by decide)
  have d1 : ∀ y, CDivZ y 127 := fun y => divP (by decide) (by decide)
  have d2 : ∀ y, CDivZ y 89 := fun y => divP (by decide) (by decide)
  have p1 : CPow 10 18 := ⟨by decide, by decide, by decide⟩
  have en := e_neNil cs
  cases cs with
  | nil =>
    unfold m_law_draw c_law_draw
    have en : eqD (.lst []) (.lst []) = some true := e_neNil []
    have f0 := fun x => fin x l hl0
    clear ha0 ha1 hn m0 m1 hl0 fin
    walk_at "ev*"
    exact f0 _
  | cons c0 cs0 =>
    have hlen : 0 < (c0 :: cs0).length := Nat.succ_pos _
    generalize e : c0 :: cs0 = cs at *
    clear e
    have hb := fm_nonneg (a := a) (m := (cs.length : Int)) (by omega)
    have hne : ¬ (cs.length : Int) = 0 := by omega
    obtain ⟨c, hc⟩ : ∃ c : Int, atI (cs.map D.int) (a.fmod (cs.length : Int)) = some (.int c) := by
      obtain ⟨j, hj⟩ : ∃ j : Nat, a.fmod (cs.length : Int) = (j : Int) := ⟨(a.fmod (cs.length : Int)).toNat, by omega⟩
      have hjl : j < cs.length := by omega
      rw [hj]
      exact ⟨cs[j], atI_nat (by rw [List.getElem?_map, List.getElem?_eq_getElem hjl]; rfl)⟩
    have he : cs.isEmpty = false := by
      cases cs with
      | nil => exact absurd hlen (by decide)
      | cons => rfl
    have fin1 : 1000000000000000000 ≤ c → ∀ x : Int, DrawOk (n + 1) m (.ret (.fz (.int (x.fmod m))) [.ow .o1 (penD cs (a + 1) ((c - 1000000000000000000).fdiv m)), .fz (.int m)]) := fun h x => fin x _ (fd_nonneg (by omega) m0)
    have fin2 := fun x => fin x l hl0
    have ll : (List.map D.int cs).length = cs.length := List.length_map ..
    clear ha0 ha1 hn m0 m1 hb hlen fin hl0
    unfold m_law_draw c_law_draw
    by_cases hcc : 1000000000000000000 ≤ c
    · have fin1 := fin1 hcc
      by_cases hat : a < (cs.length : Int)
      · walk_at "ev*"
      · walk_at "ev*"
    · clear fin1
      walk_at "ev*"

end Lw

namespace Lw
open PySem PySem.Spec PyProof.Rows L2 Rt Mi
/-! how functions are reckoned -/
local macro_rules | `(tactic| walk_at "ev") => `(tactic| simp (config := { maxSteps := 4000000 }) only [e_bo, e_bs, e_be, e_oo, e_os, e_oe, e_qn, e_qr, e_qb, e_qc, e_qe, e_qs, e_ln, e_lr, e_lb, e_lc, e_le, e_ls, e_seq, e_next, e_drop, e_ret, e_retN, e_break, e_cont, e_ifS, e_cifS, e_never, e_set, e_cset, e_kset, e_setf, e_seto, e_setu, e_seta, e_kf, e_ko, e_ku, e_ka, e_asg, e_casg, e_gN, e_gT, e_gT1, e_gs0, e_gs1, e_par, e_cpar, e_kparF, e_for, e_for0, e_for1, e_cfor, e_iseq, e_iseqL, e_iseqT, e_irng, e_rng1, e_rng2, e_vr, e_vf, e_vo, e_va, e_vu, e_vn, e_cc, e_nil, e_cons, e_ccons, e_ccons2, e_valf, e_valo, e_vala, e_alf, e_alo, e_vl0, e_vl1, e_orS, e_orN, e_f1, e_ck1, e_cf2, e_ck2, e_ckN, e_f2, e_fN, e_k1, e_k2, e_kN, e_fz, e_cfrz, e_kff, e_kfo, e_kfa, e_kfzo, e_kfzf, e_fl0, e_flf, e_flo, e_tup, e_lst, e_kdt, e_kdl, e_test, e_trv, e_kt, e_bl, e_tb, e_ti, e_tn, e_tl, e_tt, e_and, e_cand, e_cor, e_cif, e_or, e_not, e_if, e_yes, e_andV, e_candV, e_corV, e_orV, e_ktru, e_avt, e_avf, e_ovt, e_ovf, e_add, e_addL, e_sub, e_mul, e_fdiv, e_mod, e_pow, e_lt, e_opLe, e_gt, e_ge, e_neg, e_opNot, e_abs, e_lenL, e_lenT, e_list, e_listT, e_tupL, e_tupT, e_eq, e_ne, e_eqI, e_eqS, e_isN, e_isnN, e_ixL, e_ixT, e_ixD, e_keyI, e_keyS, e_partZ, e_partO, e_flZ, e_flO, e_sl, e_csl1, e_csl2, e_csl3, e_noP, e_part, e_kpart, e_ksl, e_slL, e_slS, e_disp, e_cdisp, e_pairs0, e_pairs1, e_cps1, e_cps2, e_cps3, e_kdispD, e_kdD, e_kv0, e_kv1, e_dnew, e_isiT, e_isiO, e_kdN, e_kdB, e_kdI, e_kdS, e_kdT, e_kdL, e_kdK, e_kdX, e_is1, e_is2, e_is3, e_is4, e_bint, e_bbool, e_bstr, e_btup, e_blst, e_bdic, e_fld, e_sfld, e_csf1, e_csf2, e_ksfld, e_ksf, e_put0, e_put1, e_gSub, e_gS1, e_cst1, e_cst2, e_kst, e_kst1, e_kst2, e_stD, e_call, e_ccall, e_call0, e_kcall, e_kc1, e_kc2, e_kc2e, e_kc2s, e_kc3, e_le0, e_lef, e_leo, e_lea, e_leao, e_leaf, e_ba0, e_ba1, e_baf, e_bao, e_baa, e_baz, e_bau, e_bag, e_ref, e_reo, e_reu, e_rea, e_reao, e_reaf, e_na0, e_naf, e_nao, e_nau, e_meth, e_cmeth, e_cmeth2, e_meth0, e_kmeth, e_km1, e_make, e_cmake, e_mkM, e_mk1, e_mk1e, e_callN, e_ckw1, e_ckw2, e_kcallK, e_pl0, e_plf, e_pla, e_pick0, e_pick1, e_comp, e_ccomp, e_crest, e_kcomp, e_cD0, e_cD1, e_cDn, e_cD3, e_cD2, e_nox, e_wi0, e_wi1, e_rs0, e_rs1, e_okW, e_okWu, e_okWf, e_body, e_fin, e_fir, e_fie, e_fis, e_frf, e_fro, e_fra, e_fif, e_fio, e_ou0, e_ou1, e_ouf, e_ouo, e_ouu, e_oua, e_oug, e_getK0, e_getK1, e_putD, e_atI0, e_atI1, e_atI2, e_atI3, e_raise, e_craise, e_krf, e_kro, e_try, e_tryn, e_tryr, e_tryb, e_tryc, e_trye, e_wn, e_wb, e_wc, e_wr, e_xf, e_xf1, e_chn, e_ch1, e_ch2, e_ch3, e_ch4,
  Option.bind_some, Option.bind_none, Option.map_some, Option.map_none, Option.getD_some, Option.getD_none, Option.toList_some, Option.isNone_none, Option.isNone_some,
  List.getElem?_cons_zero, List.getElem?_cons_succ, List.getElem?_nil, List.set_cons_zero, List.set_cons_succ, List.set_nil, List.map_cons, List.map_nil, List.length_cons, List.length_nil, List.nil_append, List.cons_append, List.append_nil, List.replicate_succ, List.replicate_zero, List.take_succ_cons, List.take_zero, List.take_nil, List.mem_cons, List.not_mem_nil, List.all_cons, List.all_nil, List.any_cons, List.any_nil, List.lookup_cons, List.lookup_nil, List.nodup_cons, List.nodup_nil,
  Nat.zero_add, Nat.add_zero, Nat.reduceAdd, Nat.reduceSub, Nat.reduceLT, Nat.reduceLeDiff, Nat.reduceEqDiff, Nat.reduceBEq, Nat.zero_le, Nat.succ_ne_zero, Nat.zero_ne_one, Nat.one_ne_zero, Nat.lt_irrefl, Int.lt_irrefl, Int.reduceLT, Int.reduceLE, Int.reduceEq, Int.reduceNe, Int.reduceAdd, Int.reduceSub, Int.reduceNeg, Int.reduceMul, Int.reduceToNat, Int.cast_ofNat_Int, Int.natCast_zero, Int.natCast_one, Int.reducePow, if_true, if_false, reduceIte, reduceCtorEq, or_false, or_true, true_or, false_or, and_true, true_and, and_false, false_and, and_self, decide_true, decide_false, decide_eq_true_eq, Bool.not_true, Bool.not_false, Bool.and_true, Bool.true_and, Bool.and_false, Bool.false_and, Bool.and_self, Bool.or_true, Bool.true_or, Bool.or_false, Bool.false_or, not_true_eq_false, not_false_eq_true, Bool.false_eq_true, Bool.true_eq_false, Bool.not_eq_eq_eq_not, Bool.bne_false, not_true, not_false_iff,
  sz0, sz1, sz2, sz3, sz4, sz5, sz6, sz7, sz8, sz9, sz10, sz11, sz12, sz13, sz14, sz15, sy0, sy1, sy2, sy3, sy4, sy5, sy6, sy7, sy8, sy9, sy10, sy11, sy12, sy13, sy14, sy15, String.reduceEq, String.reduceBEq, str_eq, str_beq, Sum.inr.injEq, Sum.inl.injEq, beq_self_eq_true, ne_eq, eq_self, Bool.not_eq_true, decide_not, Bt.isi, Decidable.not_not, cls, xcs])
local macro_rules | `(tactic| walk_at "ev*") => `(tactic| simp (config := { maxSteps := 4000000 }) only [e_bo, e_bs, e_be, e_oo, e_os, e_oe, e_qn, e_qr, e_qb, e_qc, e_qe, e_qs, e_ln, e_lr, e_lb, e_lc, e_le, e_ls, e_seq, e_next, e_drop, e_ret, e_retN, e_break, e_cont, e_ifS, e_cifS, e_never, e_set, e_cset, e_kset, e_setf, e_seto, e_setu, e_seta, e_kf, e_ko, e_ku, e_ka, e_asg, e_casg, e_gN, e_gT, e_gT1, e_gs0, e_gs1, e_par, e_cpar, e_kparF, e_for, e_for0, e_for1, e_cfor, e_iseq, e_iseqL, e_iseqT, e_irng, e_rng1, e_rng2, e_vr, e_vf, e_vo, e_va, e_vu, e_vn, e_cc, e_nil, e_cons, e_ccons, e_ccons2, e_valf, e_valo, e_vala, e_alf, e_alo, e_vl0, e_vl1, e_orS, e_orN, e_f1, e_ck1, e_cf2, e_ck2, e_ckN, e_f2, e_fN, e_k1, e_k2, e_kN, e_fz, e_cfrz, e_kff, e_kfo, e_kfa, e_kfzo, e_kfzf, e_fl0, e_flf, e_flo, e_tup, e_lst, e_kdt, e_kdl, e_test, e_trv, e_kt, e_bl, e_tb, e_ti, e_tn, e_tl, e_tt, e_and, e_cand, e_cor, e_cif, e_or, e_not, e_if, e_yes, e_andV, e_candV, e_corV, e_orV, e_ktru, e_avt, e_avf, e_ovt, e_ovf, e_add, e_addL, e_sub, e_mul, e_fdiv, e_mod, e_pow, e_lt, e_opLe, e_gt, e_ge, e_neg, e_opNot, e_abs, e_lenL, e_lenT, e_list, e_listT, e_tupL, e_tupT, e_eq, e_ne, e_eqI, e_eqS, e_isN, e_isnN, e_ixL, e_ixT, e_ixD, e_keyI, e_keyS, e_partZ, e_partO, e_flZ, e_flO, e_sl, e_csl1, e_csl2, e_csl3, e_noP, e_part, e_kpart, e_ksl, e_slL, e_slS, e_disp, e_cdisp, e_pairs0, e_pairs1, e_cps1, e_cps2, e_cps3, e_kdispD, e_kdD, e_kv0, e_kv1, e_dnew, e_isiT, e_isiO, e_kdN, e_kdB, e_kdI, e_kdS, e_kdT, e_kdL, e_kdK, e_kdX, e_is1, e_is2, e_is3, e_is4, e_bint, e_bbool, e_bstr, e_btup, e_blst, e_bdic, e_fld, e_sfld, e_csf1, e_csf2, e_ksfld, e_ksf, e_put0, e_put1, e_gSub, e_gS1, e_cst1, e_cst2, e_kst, e_kst1, e_kst2, e_stD, e_call, e_ccall, e_call0, e_kcall, e_kc1, e_kc2, e_kc2e, e_kc2s, e_kc3, e_le0, e_lef, e_leo, e_lea, e_leao, e_leaf, e_ba0, e_ba1, e_baf, e_bao, e_baa, e_baz, e_bau, e_bag, e_ref, e_reo, e_reu, e_rea, e_reao, e_reaf, e_na0, e_naf, e_nao, e_nau, e_meth, e_cmeth, e_cmeth2, e_meth0, e_kmeth, e_km1, e_make, e_cmake, e_mkM, e_mk1, e_mk1e, e_callN, e_ckw1, e_ckw2, e_kcallK, e_pl0, e_plf, e_pla, e_pick0, e_pick1, e_comp, e_ccomp, e_crest, e_kcomp, e_cD0, e_cD1, e_cDn, e_cD3, e_cD2, e_nox, e_wi0, e_wi1, e_rs0, e_rs1, e_okW, e_okWu, e_okWf, e_body, e_fin, e_fir, e_fie, e_fis, e_frf, e_fro, e_fra, e_fif, e_fio, e_ou0, e_ou1, e_ouf, e_ouo, e_ouu, e_oua, e_oug, e_getK0, e_getK1, e_putD, e_atI0, e_atI1, e_atI2, e_atI3, e_raise, e_craise, e_krf, e_kro, e_try, e_tryn, e_tryr, e_tryb, e_tryc, e_trye, e_wn, e_wb, e_wc, e_wr, e_xf, e_xf1, e_chn, e_ch1, e_ch2, e_ch3, e_ch4,
  Option.bind_some, Option.bind_none, Option.map_some, Option.map_none, Option.getD_some, Option.getD_none, Option.toList_some, Option.isNone_none, Option.isNone_some,
  List.getElem?_cons_zero, List.getElem?_cons_succ, List.getElem?_nil, List.set_cons_zero, List.set_cons_succ, List.set_nil, List.map_cons, List.map_nil, List.length_cons, List.length_nil, List.nil_append, List.cons_append, List.append_nil, List.replicate_succ, List.replicate_zero, List.take_succ_cons, List.take_zero, List.take_nil, List.mem_cons, List.not_mem_nil, List.all_cons, List.all_nil, List.any_cons, List.any_nil, List.lookup_cons, List.lookup_nil, List.nodup_cons, List.nodup_nil,
  Nat.zero_add, Nat.add_zero, Nat.reduceAdd, Nat.reduceSub, Nat.reduceLT, Nat.reduceLeDiff, Nat.reduceEqDiff, Nat.reduceBEq, Nat.zero_le, Nat.succ_ne_zero, Nat.zero_ne_one, Nat.one_ne_zero, Nat.lt_irrefl, Int.lt_irrefl, Int.reduceLT, Int.reduceLE, Int.reduceEq, Int.reduceNe, Int.reduceAdd, Int.reduceSub, Int.reduceNeg, Int.reduceMul, Int.reduceToNat, Int.cast_ofNat_Int, Int.natCast_zero, Int.natCast_one, Int.reducePow, if_true, if_false, reduceIte, reduceCtorEq, or_false, or_true, true_or, false_or, and_true, true_and, and_false, false_and, and_self, decide_true, decide_false, decide_eq_true_eq, Bool.not_true, Bool.not_false, Bool.and_true, Bool.true_and, Bool.and_false, Bool.false_and, Bool.and_self, Bool.or_true, Bool.true_or, Bool.or_false, Bool.false_or, not_true_eq_false, not_false_eq_true, Bool.false_eq_true, Bool.true_eq_false, Bool.not_eq_eq_eq_not, Bool.bne_false, not_true, not_false_iff,
  sz0, sz1, sz2, sz3, sz4, sz5, sz6, sz7, sz8, sz9, sz10, sz11, sz12, sz13, sz14, sz15, sy0, sy1, sy2, sy3, sy4, sy5, sy6, sy7, sy8, sy9, sy10, sy11, sy12, sy13, sy14, sy15, String.reduceEq, String.reduceBEq, str_eq, str_beq, Sum.inr.injEq, Sum.inl.injEq, beq_self_eq_true, ne_eq, eq_self, Bool.not_eq_true, decide_not, Bt.isi, Decidable.not_not, cls, xcs, *])
--!
--! needs pen
def GreatOk (n : Nat) (o : So) : Prop := ∃ d' x, o = .nx [.ow .o1 d', .fz (.int 1000000000000000000000000000000), .fz (.int x), .fz (.int 1000000000000000000000000000000)] ∧ 0 ≤ x ∧ x < 1000000000000000000000000000000 ∧ PenOk n d'
theorem w_great : ∀ (k n : Nat) (d : D) (x W : Int), k ≤ 5 → PenOk n d → n + k ≤ 10000 → W * 10 ^ (6 * k) = 1000000000000000000000000000000 → 0 < W → 0 ≤ x → x < W →
    GreatOk (n + k) (fWhile lt_law_great_1 lp_law_great_1 [.ow .o1 d, .fz (.int 1000000000000000000000000000000), .fz (.int x), .fz (.int W)])
  | 0, n, d, x, W, _, hp, hn, hW, h0, hx0, hx => by
    have e : W = 1000000000000000000000000000000 := by omega
    subst e
    rw [e_while]
    unfold lt_law_great_1
    walk_at "ev"
    simp only [e_cwh, Bool.false_eq_true, if_false]
    exact ⟨d, x, rfl, hx0, hx, hp⟩
  | k + 1, n, d, x, W, hk, hp, hn, hW, h0, hx0, hx => by
    obtain ⟨r, d1, e1, a1, b1, p1⟩ := q_draw (m := 1000000) hp (by omega) (by decide) (by decide)
    have hW2 : W * 1000000 * 10 ^ (6 * k) = 1000000000000000000000000000000 := by
      rw [← hW, show 6 * (k + 1) = 6 * k + 6 from by omega, Int.pow_add, Int.mul_assoc, Int.mul_comm (10 ^ (6 * k))]
      rfl
    have one : (1 : Int) ≤ 10 ^ (6 * k) := by
      have : (0 : Int) < 10 ^ (6 * k) := Int.pow_pos (by decide)
      omega
    have le : W * 1000000 ≤ 1000000000000000000000000000000 := by
      rw [← hW2]
      have : W * 1000000 * 1 ≤ W * 1000000 * 10 ^ (6 * k) := Int.mul_le_mul_of_nonneg_left one (by omega)
      omega
    have lt : W < 1000000000000000000000000000000 := by omega
    have c1 : CPow 10 6 := ⟨by decide, by decide, by decide⟩
    have c2 : CMulW x 1000000 := mulW (n := 100) (m := 20) (by omega) (by decide) (by decide)
    have c3 : CMulW W 1000000 := mulW (n := 100) (m := 20) (by omega) (by decide) (by decide)
    have ih := w_great k (n + 1) d1 (x * 1000000 + r) (W * 1000000) (by omega) p1 (by omega) hW2 (by omega) (by omega) (by omega)
    rw [show n + 1 + k = n + (k + 1) from by omega] at ih
    clear hW hW2 one le hx hx0 h0 hk hn p1 hp a1 b1
    rw [e_while]
    unfold lt_law_great_1
    walk_at "ev*"
    simp only [e_cwh, if_true]
    conv => arg 2; arg 1; unfold lp_law_great_1
    walk_at "ev*"
    exact ih
def NumOk (n : Nat) (B : Int) (o : Fo) : Prop := ∃ r d', o = .ret (.fz (.int r)) [.ow .o1 d'] ∧ -B < r ∧ r < B ∧ PenOk n d'
theorem q_great {n : Nat} {d : D} (hp : PenOk n d) (hn : n + 5 ≤ 10000) : DrawOk (n + 5) 1000000000000000000000000000000 (m_law_great [.ow .o1 d, .fz (.int 1000000000000000000000000000000)]) := by
  obtain ⟨d', x, e, h0, h1, hp'⟩ := w_great 5 n d 0 1 (by decide) hp hn (by decide) (by decide) (by decide) (by decide)
  have key : DrawOk (n + 5) 1000000000000000000000000000000 (.ret (.fz (.int (x.fmod 1000000000000000000000000000000))) [.ow .o1 d', .fz (.int 1000000000000000000000000000000)]) :=
    ⟨_, _, rfl, (fm_nonneg (by decide)).1, (fm_nonneg (by decide)).2, hp'⟩
  clear hp hp' h0 h1
  unfold m_law_great c_law_great
  walk_at "ev*"
theorem at3 {a b c : D} {r : Int} (h0 : 0 ≤ r) (h : r < 3) : atI [a, b, c] r = some (if r = 0 then a else if r = 1 then b else c) := by
  have : r = 0 ∨ r = 1 ∨ r = 2 := by omega
  rcases this with rfl | rfl | rfl
  · exact e_atI0
  · exact e_atI1
  · exact e_atI2
theorem q_number {n : Nat} {d : D} (hp : PenOk n d) (hn : n ≤ 9000) : NumOk (n + 9) 1000000000000000000000000000000 (m_law_number [.ow .o1 d]) := by
  obtain ⟨r1, d1, e1, a1, b1, p1⟩ := q_draw (m := 13) hp (by omega) (by decide) (by decide)
  obtain ⟨r2, d2, e2, a2, b2, p2⟩ := q_draw (m := 1000000) p1 (by omega) (by decide) (by decide)
  obtain ⟨r3, d3, e3, a3, b3, p3⟩ := q_great p2 (by omega)
  obtain ⟨r4, d4, e4, a4, b4, p4⟩ := q_draw (m := 3) p3 (by omega) (by decide) (by decide)
  obtain ⟨r5, d5, e5, a5, b5, p5⟩ := q_draw (m := 3) p4 (by omega) (by decide) (by decide)
  have x1 := at3 (a := D.int r1) (b := D.int r2) (c := D.int r3) a4 b4
  obtain ⟨k, ek, hk0, hk1⟩ : ∃ k : Int, (if r4 = 0 then D.int r1 else if r4 = 1 then D.int r2 else D.int r3) = .int k ∧ 0 ≤ k ∧ k < 1000000000000000000000000000000 := by
    split
    · exact ⟨r1, rfl, a1, by omega⟩
    · split
      · exact ⟨r2, rfl, a2, by omega⟩
      · exact ⟨r3, rfl, a3, b3⟩
  rw [ek] at x1
  have x2 := at3 (a := D.int 1) (b := D.int 1) (c := D.int (-1)) a5 b5
  obtain ⟨s, es, hs⟩ : ∃ s : Int, (if r5 = 0 then D.int 1 else if r5 = 1 then D.int 1 else D.int (-1)) = .int s ∧ (s = 1 ∨ s = -1) := by
    split
    · exact ⟨1, rfl, .inl rfl⟩
    · split
      · exact ⟨1, rfl, .inl rfl⟩
      · exact ⟨-1, rfl, .inr rfl⟩
  rw [es] at x2
  have c1 : CPow 10 6 := ⟨by decide, by decide, by decide⟩
  have c2 : CPow 10 30 := ⟨by decide, by decide, by decide⟩
  have c3 : CMulW k s := mulW (n := 100) (m := 1) (by omega) (by omega) (by decide)
  have key : NumOk (n + 9) 1000000000000000000000000000000 (.ret (.fz (.int (k * s))) [.ow .o1 d5]) := by
    refine ⟨_, _, rfl, ?_, ?_, ?_⟩
    · rcases hs with rfl | rfl <;> omega
    · rcases hs with rfl | rfl <;> omega
    · have e : n + 9 = n + 1 + 1 + 5 + 1 + 1 := by omega
      rw [e]; exact p5
  clear ek es hs hk0 hk1 p1 p2 p3 p4 p5 hp hn a1 b1 a2 b2 a3 b3 a4 b4 a5 b5
  unfold m_law_number c_law_number
  walk_at "ev*"

end Lw

namespace Lw
open PySem PySem.Spec PyProof.Rows L2 Rt Mi
/-! how functions are reckoned -/
local macro_rules | `(tactic| walk_at "ev") => `(tactic| simp (config := { maxSteps := 4000000 }) only [e_bo, e_bs, e_be, e_oo, e_os, e_oe, e_qn, e_qr, e_qb, e_qc, e_qe, e_qs, e_ln, e_lr, e_lb, e_lc, e_le, e_ls, e_seq, e_next, e_drop, e_ret, e_retN, e_break, e_cont, e_ifS, e_cifS, e_never, e_set, e_cset, e_kset, e_setf, e_seto, e_setu, e_seta, e_kf, e_ko, e_ku, e_ka, e_asg, e_casg, e_gN, e_gT, e_gT1, e_gs0, e_gs1, e_par, e_cpar, e_kparF, e_for, e_for0, e_for1, e_cfor, e_iseq, e_iseqL, e_iseqT, e_irng, e_rng1, e_rng2, e_vr, e_vf, e_vo, e_va, e_vu, e_vn, e_cc, e_nil, e_cons, e_ccons, e_ccons2, e_valf, e_valo, e_vala, e_alf, e_alo, e_vl0, e_vl1, e_orS, e_orN, e_f1, e_ck1, e_cf2, e_ck2, e_ckN, e_f2, e_fN, e_k1, e_k2, e_kN, e_fz, e_cfrz, e_kff, e_kfo, e_kfa, e_kfzo, e_kfzf, e_fl0, e_flf, e_flo, e_tup, e_lst, e_kdt, e_kdl, e_test, e_trv, e_kt, e_bl, e_tb, e_ti, e_tn, e_tl, e_tt, e_and, e_cand, e_cor, e_cif, e_or, e_not, e_if, e_yes, e_andV, e_candV, e_corV, e_orV, e_ktru, e_avt, e_avf, e_ovt, e_ovf, e_add, e_addL, e_sub, e_mul, e_fdiv, e_mod, e_pow, e_lt, e_opLe, e_gt, e_ge, e_neg, e_opNot, e_abs, e_lenL, e_lenT, e_list, e_listT, e_tupL, e_tupT, e_eq, e_ne, e_eqI, e_eqS, e_isN, e_isnN, e_ixL, e_ixT, e_ixD, e_keyI, e_keyS, e_partZ, e_partO, e_flZ, e_flO, e_sl, e_csl1, e_csl2, e_csl3, e_noP, e_part, e_kpart, e_ksl, e_slL, e_slS, e_disp, e_cdisp, e_pairs0, e_pairs1, e_cps1, e_cps2, e_cps3, e_kdispD, e_kdD, e_kv0, e_kv1, e_dnew, e_isiT, e_isiO, e_kdN, e_kdB, e_kdI, e_kdS, e_kdT, e_kdL, e_kdK, e_kdX, e_is1, e_is2, e_is3, e_is4, e_bint, e_bbool, e_bstr, e_btup, e_blst, e_bdic, e_fld, e_sfld, e_csf1, e_csf2, e_ksfld, e_ksf, e_put0, e_put1, e_gSub, e_gS1, e_cst1, e_cst2, e_kst, e_kst1, e_kst2, e_stD, e_call, e_ccall, e_call0, e_kcall, e_kc1, e_kc2, e_kc2e, e_kc2s, e_kc3, e_le0, e_lef, e_leo, e_lea, e_leao, e_leaf, e_ba0, e_ba1, e_baf, e_bao, e_baa, e_baz, e_bau, e_bag, e_ref, e_reo, e_reu, e_rea, e_reao, e_reaf, e_na0, e_naf, e_nao, e_nau, e_meth, e_cmeth, e_cmeth2, e_meth0, e_kmeth, e_km1, e_make, e_cmake, e_mkM, e_mk1, e_mk1e, e_callN, e_ckw1, e_ckw2, e_kcallK, e_pl0, e_plf, e_pla, e_pick0, e_pick1, e_comp, e_ccomp, e_crest, e_kcomp, e_cD0, e_cD1, e_cDn, e_cD3, e_cD2, e_nox, e_wi0, e_wi1, e_rs0, e_rs1, e_okW, e_okWu, e_okWf, e_body, e_fin, e_fir, e_fie, e_fis, e_frf, e_fro, e_fra, e_fif, e_fio, e_ou0, e_ou1, e_ouf, e_ouo, e_ouu, e_oua, e_oug, e_getK0, e_getK1, e_putD, e_atI0, e_atI1, e_atI2, e_atI3, e_raise, e_craise, e_krf, e_kro, e_try, e_tryn, e_tryr, e_tryb, e_tryc, e_trye, e_wn, e_wb, e_wc, e_wr, e_xf, e_xf1, e_chn, e_ch1, e_ch2, e_ch3, e_ch4,
  Option.bind_some, Option.bind_none, Option.map_some, Option.map_none, Option.getD_some, Option.getD_none, Option.toList_some, Option.isNone_none, Option.isNone_some,
  List.getElem?_cons_zero, List.getElem?_cons_succ, List.getElem?_nil, List.set_cons_zero, List.set_cons_succ, List.set_nil, List.map_cons, List.map_nil, List.length_cons, List.length_nil, List.nil_append, List.cons_append, List.append_nil, List.replicate_succ, List.replicate_zero, List.take_succ_cons, List.take_zero, List.take_nil, List.mem_cons, List.not_mem_nil, List.all_cons, List.all_nil, List.any_cons, List.any_nil, List.lookup_cons, List.lookup_nil, List.nodup_cons, List.nodup_nil,
  Nat.zero_add, Nat.add_zero, Nat.reduceAdd, Nat.reduceSub, Nat.reduceLT, Nat.reduceLeDiff, Nat.reduceEqDiff, Nat.reduceBEq, Nat.zero_le, Nat.succ_ne_zero, Nat.zero_ne_one, Nat.one_ne_zero, Nat.lt_irrefl, Int.lt_irrefl, Int.reduceLT, Int.reduceLE, Int.reduceEq, Int.reduceNe, Int.reduceAdd, Int.reduceSub, Int.reduceNeg, Int.reduceMul, Int.reduceToNat, Int.cast_ofNat_Int, Int.natCast_zero, Int.natCast_one, Int.reducePow, if_true, if_false, reduceIte, reduceCtorEq, or_false, or_true, true_or, false_or, and_true, true_and, and_false, false_and, and_self, decide_true, decide_false, decide_eq_true_eq, Bool.not_true, Bool.not_false, Bool.and_true, Bool.true_and, Bool.and_false, Bool.false_and, Bool.and_self, Bool.or_true, Bool.true_or, Bool.or_false, Bool.false_or, not_true_eq_false, not_false_eq_true, Bool.false_eq_true, Bool.true_eq_false, Bool.not_eq_eq_eq_not, Bool.bne_false, not_true, not_false_iff,
  sz0, sz1, sz2, sz3, sz4, sz5, sz6, sz7, sz8, sz9, sz10, sz11, sz12, sz13, sz14, sz15, sy0, sy1, sy2, sy3, sy4, sy5, sy6, sy7, sy8, sy9, sy10, sy11, sy12, sy13, sy14, sy15, String.reduceEq, String.reduceBEq, str_eq, str_beq, Sum.inr.injEq, Sum.inl.injEq, beq_self_eq_true, ne_eq, eq_self, Bool.not_eq_true, decide_not, Bt.isi, Decidable.not_not, cls, xcs])
local macro_rules | `(tactic| walk_at "ev*") => `(tactic| simp (config := { maxSteps := 4000000 }) only [e_bo, e_bs, e_be, e_oo, e_os, e_oe, e_qn, e_qr, e_qb, e_qc, e_qe, e_qs, e_ln, e_lr, e_lb, e_lc, e_le, e_ls, e_seq, e_next, e_drop, e_ret, e_retN, e_break, e_cont, e_ifS, e_cifS, e_never, e_set, e_cset, e_kset, e_setf, e_seto, e_setu, e_seta, e_kf, e_ko, e_ku, e_ka, e_asg, e_casg, e_gN, e_gT, e_gT1, e_gs0, e_gs1, e_par, e_cpar, e_kparF, e_for, e_for0, e_for1, e_cfor, e_iseq, e_iseqL, e_iseqT, e_irng, e_rng1, e_rng2, e_vr, e_vf, e_vo, e_va, e_vu, e_vn, e_cc, e_nil, e_cons, e_ccons, e_ccons2, e_valf, e_valo, e_vala, e_alf, e_alo, e_vl0, e_vl1, e_orS, e_orN, e_f1, e_ck1, e_cf2, e_ck2, e_ckN, e_f2, e_fN, e_k1, e_k2, e_kN, e_fz, e_cfrz, e_kff, e_kfo, e_kfa, e_kfzo, e_kfzf, e_fl0, e_flf, e_flo, e_tup, e_lst, e_kdt, e_kdl, e_test, e_trv, e_kt, e_bl, e_tb, e_ti, e_tn, e_tl, e_tt, e_and, e_cand, e_cor, e_cif, e_or, e_not, e_if, e_yes, e_andV, e_candV, e_corV, e_orV, e_ktru, e_avt, e_avf, e_ovt, e_ovf, e_add, e_addL, e_sub, e_mul, e_fdiv, e_mod, e_pow, e_lt, e_opLe, e_gt, e_ge, e_neg, e_opNot, e_abs, e_lenL, e_lenT, e_list, e_listT, e_tupL, e_tupT, e_eq, e_ne, e_eqI, e_eqS, e_isN, e_isnN, e_ixL, e_ixT, e_ixD, e_keyI, e_keyS, e_partZ, e_partO, e_flZ, e_flO, e_sl, e_csl1, e_csl2, e_csl3, e_noP, e_part, e_kpart, e_ksl, e_slL, e_slS, e_disp, e_cdisp, e_pairs0, e_pairs1, e_cps1, e_cps2, e_cps3, e_kdispD, e_kdD, e_kv0, e_kv1, e_dnew, e_isiT, e_isiO, e_kdN, e_kdB, e_kdI, e_kdS, e_kdT, e_kdL, e_kdK, e_kdX, e_is1, e_is2, e_is3, e_is4, e_bint, e_bbool, e_bstr, e_btup, e_blst, e_bdic, e_fld, e_sfld, e_csf1, e_csf2, e_ksfld, e_ksf, e_put0, e_put1, e_gSub, e_gS1, e_cst1, e_cst2, e_kst, e_kst1, e_kst2, e_stD, e_call, e_ccall, e_call0, e_kcall, e_kc1, e_kc2, e_kc2e, e_kc2s, e_kc3, e_le0, e_lef, e_leo, e_lea, e_leao, e_leaf, e_ba0, e_ba1, e_baf, e_bao, e_baa, e_baz, e_bau, e_bag, e_ref, e_reo, e_reu, e_rea, e_reao, e_reaf, e_na0, e_naf, e_nao, e_nau, e_meth, e_cmeth, e_cmeth2, e_meth0, e_kmeth, e_km1, e_make, e_cmake, e_mkM, e_mk1, e_mk1e, e_callN, e_ckw1, e_ckw2, e_kcallK, e_pl0, e_plf, e_pla, e_pick0, e_pick1, e_comp, e_ccomp, e_crest, e_kcomp, e_cD0, e_cD1, e_cDn, e_cD3, e_cD2, e_nox, e_wi0, e_wi1, e_rs0, e_rs1, e_okW, e_okWu, e_okWf, e_body, e_fin, e_fir, e_fie, e_fis, e_frf, e_fro, e_fra, e_fif, e_fio, e_ou0, e_ou1, e_ouf, e_ouo, e_ouu, e_oua, e_oug, e_getK0, e_getK1, e_putD, e_atI0, e_atI1, e_atI2, e_atI3, e_raise, e_craise, e_krf, e_kro, e_try, e_tryn, e_tryr, e_tryb, e_tryc, e_trye, e_wn, e_wb, e_wc, e_wr, e_xf, e_xf1, e_chn, e_ch1, e_ch2, e_ch3, e_ch4,
  Option.bind_some, Option.bind_none, Option.map_some, Option.map_none, Option.getD_some, Option.getD_none, Option.toList_some, Option.isNone_none, Option.isNone_some,
  List.getElem?_cons_zero, List.getElem?_cons_succ, List.getElem?_nil, List.set_cons_zero, List.set_cons_succ, List.set_nil, List.map_cons, List.map_nil, List.length_cons, List.length_nil, List.nil_append, List.cons_append, List.append_nil, List.replicate_succ, List.replicate_zero, List.take_succ_cons, List.take_zero, List.take_nil, List.mem_cons, List.not_mem_nil, List.all_cons, List.all_nil, List.any_cons, List.any_nil, List.lookup_cons, List.lookup_nil, List.nodup_cons, List.nodup_nil,
  Nat.zero_add, Nat.add_zero, Nat.reduceAdd, Nat.reduceSub, Nat.reduceLT, Nat.reduceLeDiff, Nat.reduceEqDiff, Nat.reduceBEq, Nat.zero_le, Nat.succ_ne_zero, Nat.zero_ne_one, Nat.one_ne_zero, Nat.lt_irrefl, Int.lt_irrefl, Int.reduceLT, Int.reduceLE, Int.reduceEq, Int.reduceNe, Int.reduceAdd, Int.reduceSub, Int.reduceNeg, Int.reduceMul, Int.reduceToNat, Int.cast_ofNat_Int, Int.natCast_zero, Int.natCast_one, Int.reducePow, if_true, if_false, reduceIte, reduceCtorEq, or_false, or_true, true_or, false_or, and_true, true_and, and_false, false_and, and_self, decide_true, decide_false, decide_eq_true_eq, Bool.not_true, Bool.not_false, Bool.and_true, Bool.true_and, Bool.and_false, Bool.false_and, Bool.and_self, Bool.or_true, Bool.true_or, Bool.or_false, Bool.false_or, not_true_eq_false, not_false_eq_true, Bool.false_eq_true, Bool.true_eq_false, Bool.not_eq_eq_eq_not, Bool.bne_false, not_true, not_false_iff,
  sz0, sz1, sz2, sz3, sz4, sz5, sz6, sz7, sz8, sz9, sz10, sz11, sz12, sz13, sz14, sz15, sy0, sy1, sy2, sy3, sy4, sy5, sy6, sy7, sy8, sy9, sy10, sy11, sy12, sy13, sy14, sy15, String.reduceEq, String.reduceBEq, str_eq, str_beq, Sum.inr.injEq, Sum.inl.injEq, beq_self_eq_true, ne_eq, eq_self, Bool.not_eq_true, decide_not, Bt.isi, Decidable.not_not, cls, xcs, *])
--!
--!
theorem q_is_whole (i : Int) : m_is_whole [.fz (.int i)] = .ret (.fz (.bl true)) [.fz (.int i)] := by
  unfold m_is_whole c_is_whole
  walk_at "ev"
theorem w_divisor : ∀ (y x : Nat), fWhile lt_divisor_1 lp_divisor_1 [.fz (.int (x : Nat)), .fz (.int (y : Nat))] = .nx [.fz (.int (Nat.gcd x y : Nat)), .fz (.int 0)] := by
  intro y
  induction y using Nat.strongRecOn with
  | ind y ih =>
    intro x
    rw [e_while]
    by_cases h : y = 0
    · subst h
      unfold lt_divisor_1
      walk_at "ev"
      simp [e_cwh]
    · have h1 : (0 : Int) < (y : Int) := by omega
      have h2 : ¬ ((y : Int) = 0) := by omega
      unfold lt_divisor_1
      walk_at "ev"
      simp only [e_cwh, h1, if_true, decide_true]
      conv => lhs; arg 1; unfold lp_divisor_1
      walk_at "ev*"
      rw [fmod_nat]
      have := ih (x % y) (Nat.mod_lt _ (by omega)) y
      rw [gcd_turn rfl] at this
      exact this
theorem q_divisor (a b : Int) : m_divisor [.fz (.int a), .fz (.int b)] = .ret (.fz (.int (Int.gcd a b : Nat))) [.un, .un] := by
  have := w_divisor b.natAbs a.natAbs
  unfold m_divisor c_divisor
  walk_at "ev*"
  rfl
abbrev shD (q : Rat) : D := .ins "Share" [("top", .int q.num), ("bottom", .int q.den)]
theorem q_Share_init {a b : Int} (h0 : b ≠ 0) (hb : b.natAbs < 2 ^ 9000) : m_Share_init [.ow .o1 (.ins "Share" []), .fz (.int a), .fz (.int b)] = .ret (.fz .non) [.ow .o1 (shD (Rat.divInt a b)), .fz (.int a), .fz (.int b)] := by
  have w1 := q_is_whole
  have w2 := q_divisor a b
  have hg0 : ((Int.gcd a b : Nat) : Int) ≠ 0 := by
    have := Int.gcd_pos_of_ne_zero_right a h0
    omega
  have hz : (((Int.gcd a b : Nat) : Int)).natAbs < 2 ^ 9000 := gcd_lt hb h0
  have p1 := part_top (a := a) h0
  have p2 := part_bot (a := a) h0
  unfold m_Share_init c_Share_init lp_Share_init_1
  by_cases hn : b < 0
  · rw [if_pos hn] at p1 p2
    have d1 : CDivZ a (0 - ((Int.gcd a b : Nat) : Int)) := divZ (b := 9000) (by omega) (by omega) (by decide) (by decide)
    have d2 : CDivZ b (0 - ((Int.gcd a b : Nat) : Int)) := divZ (b := 9000) (by omega) (by omega) (by decide) (by decide)
    clear hz hb
    walk_at "ev*"
  · rw [if_neg hn] at p1 p2
    have d1 : CDivZ a ((Int.gcd a b : Nat) : Int) := divZ (b := 9000) hg0 hz (by decide) (by decide)
    have d2 : CDivZ b ((Int.gcd a b : Nat) : Int) := divZ (b := 9000) hg0 hz (by decide) (by decide)
    clear hz hb
    walk_at "ev*"
theorem q_Share_plus {n m : Nat} {q r : Rat} (hq : RSz n q) (hr : RSz m r) (hn : n + m ≤ 9000) : m_Share_plus [.fz (shD q), .fz (shD r)] = .ret (.fz (shD (q + r))) [.fz (shD q), .fz (shD r)] := by
  have c1 : CMulW q.num (r.den : Int) := mulW hq.1 (dsz hr) (by omega)
  have c2 : CMulW r.num (q.den : Int) := mulW hr.1 (dsz hq) (by omega)
  have c3 : CMulW (q.den : Int) (r.den : Int) := mulW (dsz hq) (dsz hr) (by omega)
  have w := q_Share_init (a := q.num * (r.den : Int) + r.num * (q.den : Int)) (b := (q.den : Int) * (r.den : Int)) (Int.mul_ne_zero (den_ne q) (den_ne r)) (pow_le (wide_lt (dsz hq) (dsz hr)) hn)
  rw [add_eq] at w
  clear hq hr hn
  unfold m_Share_plus c_Share_plus
  walk_at "ev*"
theorem q_Share_times {n m : Nat} {q : Rat} {j : Int} (hq : RSz n q) (hj : j.natAbs < 2 ^ m) (hn : n + m ≤ 9000) : m_Share_times [.fz (shD q), .fz (.int j)] = .ret (.fz (shD (q * (j : Rat)))) [.fz (shD q), .fz (.int j)] := by
  have c1 : CMulW q.num j := mulW hq.1 hj (by omega)
  have w := q_Share_init (a := q.num * j) (b := (q.den : Int)) (den_ne q) (pow_le (dsz hq) (by omega))
  rw [mulI_eq] at w
  clear hq hj hn
  unfold m_Share_times c_Share_times
  walk_at "ev*"
theorem q_Share_over {n m : Nat} {q : Rat} {j : Int} (hq : RSz n q) (hj : j.natAbs < 2 ^ m) (h0 : j ≠ 0) (hn : n + m ≤ 9000) : m_Share_over [.fz (shD q), .fz (.int j)] = .ret (.fz (shD (q / (j : Rat)))) [.fz (shD q), .fz (.int j)] := by
  have c1 : CMulW (q.den : Int) j := mulW (dsz hq) hj (by omega)
  have w := q_Share_init (a := q.num) (b := (q.den : Int) * j) (Int.mul_ne_zero (den_ne q) h0) (pow_le (wide_lt (dsz hq) hj) hn)
  rw [divI_eq q h0] at w
  clear hq hj hn
  unfold m_Share_over c_Share_over
  walk_at "ev*"

end Lw

namespace Lw
open PySem PySem.Spec PyProof.Rows L2 Rt Mi
/-! how functions are reckoned -/
local macro_rules | `(tactic| walk_at "ev") => `(tactic| simp (config := { maxSteps := 4000000 }) only [e_bo, e_bs, e_be, e_oo, e_os, e_oe, e_qn, e_qr, e_qb, e_qc, e_qe, e_qs, e_ln, e_lr, e_lb, e_lc, e_le, e_ls, e_seq, e_next, e_drop, e_ret, e_retN, e_break, e_cont, e_ifS, e_cifS, e_never, e_set, e_cset, e_kset, e_setf, e_seto, e_setu, e_seta, e_kf, e_ko, e_ku, e_ka, e_asg, e_casg, e_gN, e_gT, e_gT1, e_gs0, e_gs1, e_par, e_cpar, e_kparF, e_for, e_for0, e_for1, e_cfor, e_iseq, e_iseqL, e_iseqT, e_irng, e_rng1, e_rng2, e_vr, e_vf, e_vo, e_va, e_vu, e_vn, e_cc, e_nil, e_cons, e_ccons, e_ccons2, e_valf, e_valo, e_vala, e_alf, e_alo, e_vl0, e_vl1, e_orS, e_orN, e_f1, e_ck1, e_cf2, e_ck2, e_ckN, e_f2, e_fN, e_k1, e_k2, e_kN, e_fz, e_cfrz, e_kff, e_kfo, e_kfa, e_kfzo, e_kfzf, e_fl0, e_flf, e_flo, e_tup, e_lst, e_kdt, e_kdl, e_test, e_trv, e_kt, e_bl, e_tb, e_ti, e_tn, e_tl, e_tt, e_and, e_cand, e_cor, e_cif, e_or, e_not, e_if, e_yes, e_andV, e_candV, e_corV, e_orV, e_ktru, e_avt, e_avf, e_ovt, e_ovf, e_add, e_addL, e_sub, e_mul, e_fdiv, e_mod, e_pow, e_lt, e_opLe, e_gt, e_ge, e_neg, e_opNot, e_abs, e_lenL, e_lenT, e_list, e_listT, e_tupL, e_tupT, e_eq, e_ne, e_eqI, e_eqS, e_isN, e_isnN, e_ixL, e_ixT, e_ixD, e_keyI, e_keyS, e_partZ, e_partO, e_flZ, e_flO, e_sl, e_csl1, e_csl2, e_csl3, e_noP, e_part, e_kpart, e_ksl, e_slL, e_slS, e_disp, e_cdisp, e_pairs0, e_pairs1, e_cps1, e_cps2, e_cps3, e_kdispD, e_kdD, e_kv0, e_kv1, e_dnew, e_isiT, e_isiO, e_kdN, e_kdB, e_kdI, e_kdS, e_kdT, e_kdL, e_kdK, e_kdX, e_is1, e_is2, e_is3, e_is4, e_bint, e_bbool, e_bstr, e_btup, e_blst, e_bdic, e_fld, e_sfld, e_csf1, e_csf2, e_ksfld, e_ksf, e_put0, e_put1, e_gSub, e_gS1, e_cst1, e_cst2, e_kst, e_kst1, e_kst2, e_stD, e_call, e_ccall, e_call0, e_kcall, e_kc1, e_kc2, e_kc2e, e_kc2s, e_kc3, e_le0, e_lef, e_leo, e_lea, e_leao, e_leaf, e_ba0, e_ba1, e_baf, e_bao, e_baa, e_baz, e_bau, e_bag, e_ref, e_reo, e_reu, e_rea, e_reao, e_reaf, e_na0, e_naf, e_nao, e_nau, e_meth, e_cmeth, e_cmeth2, e_meth0, e_kmeth, e_km1, e_make, e_cmake, e_mkM, e_mk1, e_mk1e, e_callN, e_ckw1, e_ckw2, e_kcallK, e_pl0, e_plf, e_pla, e_pick0, e_pick1, e_comp, e_ccomp, e_crest, e_kcomp, e_cD0, e_cD1, e_cDn, e_cD3, e_cD2, e_nox, e_wi0, e_wi1, e_rs0, e_rs1, e_okW, e_okWu, e_okWf, e_body, e_fin, e_fir, e_fie, e_fis, e_frf, e_fro, e_fra, e_fif, e_fio, e_ou0, e_ou1, e_ouf, e_ouo, e_ouu, e_oua, e_oug, e_getK0, e_getK1, e_putD, e_atI0, e_atI1, e_atI2, e_atI3, e_raise, e_craise, e_krf, e_kro, e_try, e_tryn, e_tryr, e_tryb, e_tryc, e_trye, e_wn, e_wb, e_wc, e_wr, e_xf, e_xf1, e_chn, e_ch1, e_ch2, e_ch3, e_ch4,
  Option.bind_some, Option.bind_none, Option.map_some, Option.map_none, Option.getD_some, Option.getD_none, Option.toList_some, Option.isNone_none, Option.isNone_some,
  List.getElem?_cons_zero, List.getElem?_cons_succ, List.getElem?_nil, List.set_cons_zero, List.set_cons_succ, List.set_nil, List.map_cons, List.map_nil, List.length_cons, List.length_nil, List.nil_append, List.cons_append, List.append_nil, List.replicate_succ, List.replicate_zero, List.take_succ_cons, List.take_zero, List.take_nil, List.mem_cons, List.not_mem_nil, List.all_cons, List.all_nil, List.any_cons, List.any_nil, List.lookup_cons, List.lookup_nil, List.nodup_cons, List.nodup_nil,
  Nat.zero_add, Nat.add_zero, Nat.reduceAdd, Nat.reduceSub, Nat.reduceLT, Nat.reduceLeDiff, Nat.reduceEqDiff, Nat.reduceBEq, Nat.zero_le, Nat.succ_ne_zero, Nat.zero_ne_one, Nat.one_ne_zero, Nat.lt_irrefl, Int.lt_irrefl, Int.reduceLT, Int.reduceLE, Int.reduceEq, Int.reduceNe, Int.reduceAdd, Int.reduceSub, Int.reduceNeg, Int.reduceMul, Int.reduceToNat, Int.cast_ofNat_Int, Int.natCast_zero, Int.natCast_one, Int.reducePow, if_true, if_false, reduceIte, reduceCtorEq, or_false, or_true, true_or, false_or, and_true, true_and, and_false, false_and, and_self, decide_true, decide_false, decide_eq_true_eq, Bool.not_true, Bool.not_false, Bool.and_true, Bool.true_and, Bool.and_false, Bool.false_and, Bool.and_self, Bool.or_true, Bool.true_or, Bool.or_false, Bool.false_or, not_true_eq_false, not_false_eq_true, Bool.false_eq_true, Bool.true_eq_false, Bool.not_eq_eq_eq_not, Bool.bne_false, not_true, not_false_iff,
  sz0, sz1, sz2, sz3, sz4, sz5, sz6, sz7, sz8, sz9, sz10, sz11, sz12, sz13, sz14, sz15, sy0, sy1, sy2, sy3, sy4, sy5, sy6, sy7, sy8, sy9, sy10, sy11, sy12, sy13, sy14, sy15, String.reduceEq, String.reduceBEq, str_eq, str_beq, Sum.inr.injEq, Sum.inl.injEq, beq_self_eq_true, ne_eq, eq_self, Bool.not_eq_true, decide_not, Bt.isi, Decidable.not_not, cls, xcs])
local macro_rules | `(tactic| walk_at "ev*") => `(tactic| simp (config := { maxSteps := 4000000 }) only [e_bo, e_bs, e_be, e_oo, e_os, e_oe, e_qn, e_qr, e_qb, e_qc, e_qe, e_qs, e_ln, e_lr, e_lb, e_lc, e_le, e_ls, e_seq, e_next, e_drop, e_ret, e_retN, e_break, e_cont, e_ifS, e_cifS, e_never, e_set, e_cset, e_kset, e_setf, e_seto, e_setu, e_seta, e_kf, e_ko, e_ku, e_ka, e_asg, e_casg, e_gN, e_gT, e_gT1, e_gs0, e_gs1, e_par, e_cpar, e_kparF, e_for, e_for0, e_for1, e_cfor, e_iseq, e_iseqL, e_iseqT, e_irng, e_rng1, e_rng2, e_vr, e_vf, e_vo, e_va, e_vu, e_vn, e_cc, e_nil, e_cons, e_ccons, e_ccons2, e_valf, e_valo, e_vala, e_alf, e_alo, e_vl0, e_vl1, e_orS, e_orN, e_f1, e_ck1, e_cf2, e_ck2, e_ckN, e_f2, e_fN, e_k1, e_k2, e_kN, e_fz, e_cfrz, e_kff, e_kfo, e_kfa, e_kfzo, e_kfzf, e_fl0, e_flf, e_flo, e_tup, e_lst, e_kdt, e_kdl, e_test, e_trv, e_kt, e_bl, e_tb, e_ti, e_tn, e_tl, e_tt, e_and, e_cand, e_cor, e_cif, e_or, e_not, e_if, e_yes, e_andV, e_candV, e_corV, e_orV, e_ktru, e_avt, e_avf, e_ovt, e_ovf, e_add, e_addL, e_sub, e_mul, e_fdiv, e_mod, e_pow, e_lt, e_opLe, e_gt, e_ge, e_neg, e_opNot, e_abs, e_lenL, e_lenT, e_list, e_listT, e_tupL, e_tupT, e_eq, e_ne, e_eqI, e_eqS, e_isN, e_isnN, e_ixL, e_ixT, e_ixD, e_keyI, e_keyS, e_partZ, e_partO, e_flZ, e_flO, e_sl, e_csl1, e_csl2, e_csl3, e_noP, e_part, e_kpart, e_ksl, e_slL, e_slS, e_disp, e_cdisp, e_pairs0, e_pairs1, e_cps1, e_cps2, e_cps3, e_kdispD, e_kdD, e_kv0, e_kv1, e_dnew, e_isiT, e_isiO, e_kdN, e_kdB, e_kdI, e_kdS, e_kdT, e_kdL, e_kdK, e_kdX, e_is1, e_is2, e_is3, e_is4, e_bint, e_bbool, e_bstr, e_btup, e_blst, e_bdic, e_fld, e_sfld, e_csf1, e_csf2, e_ksfld, e_ksf, e_put0, e_put1, e_gSub, e_gS1, e_cst1, e_cst2, e_kst, e_kst1, e_kst2, e_stD, e_call, e_ccall, e_call0, e_kcall, e_kc1, e_kc2, e_kc2e, e_kc2s, e_kc3, e_le0, e_lef, e_leo, e_lea, e_leao, e_leaf, e_ba0, e_ba1, e_baf, e_bao, e_baa, e_baz, e_bau, e_bag, e_ref, e_reo, e_reu, e_rea, e_reao, e_reaf, e_na0, e_naf, e_nao, e_nau, e_meth, e_cmeth, e_cmeth2, e_meth0, e_kmeth, e_km1, e_make, e_cmake, e_mkM, e_mk1, e_mk1e, e_callN, e_ckw1, e_ckw2, e_kcallK, e_pl0, e_plf, e_pla, e_pick0, e_pick1, e_comp, e_ccomp, e_crest, e_kcomp, e_cD0, e_cD1, e_cDn, e_cD3, e_cD2, e_nox, e_wi0, e_wi1, e_rs0, e_rs1, e_okW, e_okWu, e_okWf, e_body, e_fin, e_fir, e_fie, e_fis, e_frf, e_fro, e_fra, e_fif, e_fio, e_ou0, e_ou1, e_ouf, e_ouo, e_ouu, e_oua, e_oug, e_getK0, e_getK1, e_putD, e_atI0, e_atI1, e_atI2, e_atI3, e_raise, e_craise, e_krf, e_kro, e_try, e_tryn, e_tryr, e_tryb, e_tryc, e_trye, e_wn, e_wb, e_wc, e_wr, e_xf, e_xf1, e_chn, e_ch1, e_ch2, e_ch3, e_ch4,
  Option.bind_some, Option.bind_none, Option.map_some, Option.map_none, Option.getD_some, Option.getD_none, Option.toList_some, Option.isNone_none, Option.isNone_some,
  List.getElem?_cons_zero, List.getElem?_cons_succ, List.getElem?_nil, List.set_cons_zero, List.set_cons_succ, List.set_nil, List.map_cons, List.map_nil, List.length_cons, List.length_nil, List.nil_append, List.cons_append, List.append_nil, List.replicate_succ, List.replicate_zero, List.take_succ_cons, List.take_zero, List.take_nil, List.mem_cons, List.not_mem_nil, List.all_cons, List.all_nil, List.any_cons, List.any_nil, List.lookup_cons, List.lookup_nil, List.nodup_cons, List.nodup_nil,
  Nat.zero_add, Nat.add_zero, Nat.reduceAdd, Nat.reduceSub, Nat.reduceLT, Nat.reduceLeDiff, Nat.reduceEqDiff, Nat.reduceBEq, Nat.zero_le, Nat.succ_ne_zero, Nat.zero_ne_one, Nat.one_ne_zero, Nat.lt_irrefl, Int.lt_irrefl, Int.reduceLT, Int.reduceLE, Int.reduceEq, Int.reduceNe, Int.reduceAdd, Int.reduceSub, Int.reduceNeg, Int.reduceMul, Int.reduceToNat, Int.cast_ofNat_Int, Int.natCast_zero, Int.natCast_one, Int.reducePow, if_true, if_false, reduceIte, reduceCtorEq, or_false, or_true, true_or, false_or, and_true, true_and, and_false, false_and, and_self, decide_true, decide_false, decide_eq_true_eq, Bool.not_true, Bool.not_false, Bool.and_true, Bool.true_and, Bool.and_false, Bool.false_and, Bool.and_self, Bool.or_true, Bool.true_or, Bool.or_false, Bool.false_or, not_true_eq_false, not_false_eq_true, Bool.false_eq_true, Bool.true_eq_false, Bool.not_eq_eq_eq_not, Bool.bne_false, not_true, not_false_iff,
  sz0, sz1, sz2, sz3, sz4, sz5, sz6, sz7, sz8, sz9, sz10, sz11, sz12, sz13, sz14, sz15, sy0, sy1, sy2, sy3, sy4, sy5, sy6, sy7, sy8, sy9, sy10, sy11, sy12, sy13, sy14, sy15, String.reduceEq, String.reduceBEq, str_eq, str_beq, Sum.inr.injEq, Sum.inl.injEq, beq_self_eq_true, ne_eq, eq_self, Bool.not_eq_true, decide_not, Bt.isi, Decidable.not_not, cls, xcs, *])
--!
--! needs shares
theorem w_low : ∀ (y x : Nat) (a b : Sl), fWhile lt_law_low_1 lp_law_low_1 [.fz (.int p), .fz (.int q), .fz (.int (x : Nat)), .fz (.int (y : Nat))] = .nx [.fz (.int p), .fz (.int q), .fz (.int (Nat.gcd x y : Nat)), .fz (.int 0)] := by
  intro y
  induction y using Nat.strongRecOn with
  | ind y ih =>
    intro x _ _
    rw [e_while]
    by_cases h : y = 0
    · subst h
      unfold lt_law_low_1
      walk_at "ev"
      simp [e_cwh]
    · have h1 : (0 : Int) < (y : Int) := by omega
      have h2 : ¬ ((y : Int) = 0) := by omega
      unfold lt_law_low_1
      walk_at "ev"
      simp only [e_cwh, h1, if_true, decide_true]
      conv => lhs; arg 1; unfold lp_law_low_1
      walk_at "ev*"
      rw [fmod_nat]
      have := ih (x % y) (Nat.mod_lt _ (by omega)) y .un .un
      rw [gcd_turn rfl] at this
      exact this
abbrev prD (q : Rat) : D := .tup [.int q.num, .int q.den]
theorem q_low {a b : Int} (h0 : b ≠ 0) (hb : b.natAbs < 2 ^ 9000) : m_law_low [.fz (.int a), .fz (.int b)] = .ret (.fz (prD (Rat.divInt a b))) [.fz (.int a), .fz (.int b)] := by
  have w2 : fWhile lt_law_low_1 lp_law_low_1 [.fz (.int a), .fz (.int b), .fz (.int (a.natAbs : Nat)), .fz (.int (b.natAbs : Nat))] = .nx [.fz (.int a), .fz (.int b), .fz (.int (Int.gcd a b : Nat)), .fz (.int 0)] := w_low b.natAbs a.natAbs .un .un
  have hg0 : ((Int.gcd a b : Nat) : Int) ≠ 0 := by
    have := Int.gcd_pos_of_ne_zero_right a h0
    omega
  have hz : (((Int.gcd a b : Nat) : Int)).natAbs < 2 ^ 9000 := gcd_lt hb h0
  have p1 := part_top (a := a) h0
  have p2 := part_bot (a := a) h0
  unfold m_law_low c_law_low
  by_cases hn : b < 0
  · rw [if_pos hn] at p1 p2
    have d1 : CDivZ a (0 - ((Int.gcd a b : Nat) : Int)) := divZ (b := 9000) (by omega) (by omega) (by decide) (by decide)
    have d2 : CDivZ b (0 - ((Int.gcd a b : Nat) : Int)) := divZ (b := 9000) (by omega) (by omega) (by decide) (by decide)
    clear hz hb
    walk_at "ev*"
  · rw [if_neg hn] at p1 p2
    have d1 : CDivZ a ((Int.gcd a b : Nat) : Int) := divZ (b := 9000) hg0 hz (by decide) (by decide)
    have d2 : CDivZ b ((Int.gcd a b : Nat) : Int) := divZ (b := 9000) hg0 hz (by decide) (by decide)
    clear hz hb
    walk_at "ev*"
theorem q_add {n m : Nat} {a b c d : Int} (hb : b ≠ 0) (hd : d ≠ 0) (za : a.natAbs < 2 ^ n) (zb : b.natAbs < 2 ^ n) (zc : c.natAbs < 2 ^ m) (zd : d.natAbs < 2 ^ m) (h : n + m ≤ 9000) :
    m_law_add [.fz (.tup [.int a, .int b]), .fz (.tup [.int c, .int d])] = .ret (.fz (prD (Rat.divInt a b + Rat.divInt c d))) [.fz (.tup [.int a, .int b]), .fz (.tup [.int c, .int d])] := by
  have c1 : CMulW a d := mulW za zd (by omega)
  have c2 : CMulW c b := mulW zc zb (by omega)
  have c3 : CMulW b d := mulW zb zd (by omega)
  have w := q_low (a := a * d + c * b) (b := b * d) (Int.mul_ne_zero hb hd) (pow_le (wide_lt zb zd) h)
  have e : Rat.divInt (a * d + c * b) (b * d) = Rat.divInt a b + Rat.divInt c d := (Rat.divInt_add_divInt a c hb hd).symm
  rw [e] at w
  clear za zb zc zd h hb hd e
  unfold m_law_add c_law_add
  walk_at "ev*"
theorem q_pair (q : Rat) : m_law_pair [.fz (shD q)] = .ret (.fz (prD q)) [.fz (shD q)] := by
  unfold m_law_pair c_law_pair lp_law_pair_1
  walk_at "ev"

end Lw

namespace Lw
open PySem PySem.Spec PyProof.Rows L2 Rt Mi
/-! how functions are reckoned -/
local macro_rules | `(tactic| walk_at "ev") => `(tactic| simp (config := { maxSteps := 4000000 }) only [e_bo, e_bs, e_be, e_oo, e_os, e_oe, e_qn, e_qr, e_qb, e_qc, e_qe, e_qs, e_ln, e_lr, e_lb, e_lc, e_le, e_ls, e_seq, e_next, e_drop, e_ret, e_retN, e_break, e_cont, e_ifS, e_cifS, e_never, e_set, e_cset, e_kset, e_setf, e_seto, e_setu, e_seta, e_kf, e_ko, e_ku, e_ka, e_asg, e_casg, e_gN, e_gT, e_gT1, e_gs0, e_gs1, e_par, e_cpar, e_kparF, e_for, e_for0, e_for1, e_cfor, e_iseq, e_iseqL, e_iseqT, e_irng, e_rng1, e_rng2, e_vr, e_vf, e_vo, e_va, e_vu, e_vn, e_cc, e_nil, e_cons, e_ccons, e_ccons2, e_valf, e_valo, e_vala, e_alf, e_alo, e_vl0, e_vl1, e_orS, e_orN, e_f1, e_ck1, e_cf2, e_ck2, e_ckN, e_f2, e_fN, e_k1, e_k2, e_kN, e_fz, e_cfrz, e_kff, e_kfo, e_kfa, e_kfzo, e_kfzf, e_fl0, e_flf, e_flo, e_tup, e_lst, e_kdt, e_kdl, e_test, e_trv, e_kt, e_bl, e_tb, e_ti, e_tn, e_tl, e_tt, e_and, e_cand, e_cor, e_cif, e_or, e_not, e_if, e_yes, e_andV, e_candV, e_corV, e_orV, e_ktru, e_avt, e_avf, e_ovt, e_ovf, e_add, e_addL, e_sub, e_mul, e_fdiv, e_mod, e_pow, e_lt, e_opLe, e_gt, e_ge, e_neg, e_opNot, e_abs, e_lenL, e_lenT, e_list, e_listT, e_tupL, e_tupT, e_eq, e_ne, e_eqI, e_eqS, e_isN, e_isnN, e_ixL, e_ixT, e_ixD, e_keyI, e_keyS, e_partZ, e_partO, e_flZ, e_flO, e_sl, e_csl1, e_csl2, e_csl3, e_noP, e_part, e_kpart, e_ksl, e_slL, e_slS, e_disp, e_cdisp, e_pairs0, e_pairs1, e_cps1, e_cps2, e_cps3, e_kdispD, e_kdD, e_kv0, e_kv1, e_dnew, e_isiT, e_isiO, e_kdN, e_kdB, e_kdI, e_kdS, e_kdT, e_kdL, e_kdK, e_kdX, e_is1, e_is2, e_is3, e_is4, e_bint, e_bbool, e_bstr, e_btup, e_blst, e_bdic, e_fld, e_sfld, e_csf1, e_csf2, e_ksfld, e_ksf, e_put0, e_put1, e_gSub, e_gS1, e_cst1, e_cst2, e_kst, e_kst1, e_kst2, e_stD, e_call, e_ccall, e_call0, e_kcall, e_kc1, e_kc2, e_kc2e, e_kc2s, e_kc3, e_le0, e_lef, e_leo, e_lea, e_leao, e_leaf, e_ba0, e_ba1, e_baf, e_bao, e_baa, e_baz, e_bau, e_bag, e_ref, e_reo, e_reu, e_rea, e_reao, e_reaf, e_na0, e_naf, e_nao, e_nau, e_meth, e_cmeth, e_cmeth2, e_meth0, e_kmeth, e_km1, e_make, e_cmake, e_mkM, e_mk1, e_mk1e, e_callN, e_ckw1, e_ckw2, e_kcallK, e_pl0, e_plf, e_pla, e_pick0, e_pick1, e_comp, e_ccomp, e_crest, e_kcomp, e_cD0, e_cD1, e_cDn, e_cD3, e_cD2, e_nox, e_wi0, e_wi1, e_rs0, e_rs1, e_okW, e_okWu, e_okWf, e_body, e_fin, e_fir, e_fie, e_fis, e_frf, e_fro, e_fra, e_fif, e_fio, e_ou0, e_ou1, e_ouf, e_ouo, e_ouu, e_oua, e_oug, e_getK0, e_getK1, e_putD, e_atI0, e_atI1, e_atI2, e_atI3, e_raise, e_craise, e_krf, e_kro, e_try, e_tryn, e_tryr, e_tryb, e_tryc, e_trye, e_wn, e_wb, e_wc, e_wr, e_xf, e_xf1, e_chn, e_ch1, e_ch2, e_ch3, e_ch4,
  Option.bind_some, Option.bind_none, Option.map_some, Option.map_none, Option.getD_some, Option.getD_none, Option.toList_some, Option.isNone_none, Option.isNone_some,
  List.getElem?_cons_zero, List.getElem?_cons_succ, List.getElem?_nil, List.set_cons_zero, List.set_cons_succ, List.set_nil, List.map_cons, List.map_nil, List.length_cons, List.length_nil, List.nil_append, List.cons_append, List.append_nil, List.replicate_succ, List.replicate_zero, List.take_succ_cons, List.take_zero, List.take_nil, List.mem_cons, List.not_mem_nil, List.all_cons, List.all_nil, List.any_cons, List.any_nil, List.lookup_cons, List.lookup_nil, List.nodup_cons, List.nodup_nil,
  Nat.zero_add, Nat.add_zero, Nat.reduceAdd, Nat.reduceSub, Nat.reduceLT, Nat.reduceLeDiff, Nat.reduceEqDiff, Nat.reduceBEq, Nat.zero_le, Nat.succ_ne_zero, Nat.zero_ne_one, Nat.one_ne_zero, Nat.lt_irrefl, Int.lt_irrefl, Int.reduceLT, Int.reduceLE, Int.reduceEq, Int.reduceNe, Int.reduceAdd, Int.reduceSub, Int.reduceNeg, Int.reduceMul, Int.reduceToNat, Int.cast_ofNat_Int, Int.natCast_zero, Int.natCast_one, Int.reducePow, if_true, if_false, reduceIte, reduceCtorEq, or_false, or_true, true_or, false_or, and_true, true_and, and_false, false_and, and_self, decide_true, decide_false, decide_eq_true_eq, Bool.not_true, Bool.not_false, Bool.and_true, Bool.true_and, Bool.and_false, Bool.false_and, Bool.and_self, Bool.or_true, Bool.true_or, Bool.or_false, Bool.false_or, not_true_eq_false, not_false_eq_true, Bool.false_eq_true, Bool.true_eq_false, Bool.not_eq_eq_eq_not, Bool.bne_false, not_true, not_false_iff,
  sz0, sz1, sz2, sz3, sz4, sz5, sz6, sz7, sz8, sz9, sz10, sz11, sz12, sz13, sz14, sz15, sy0, sy1, sy2, sy3, sy4, sy5, sy6, sy7, sy8, sy9, sy10, sy11, sy12, sy13, sy14, sy15, String.reduceEq, String.reduceBEq, str_eq, str_beq, Sum.inr.injEq, Sum.inl.injEq, beq_self_eq_true, ne_eq, eq_self, Bool.not_eq_true, decide_not, Bt.isi, Decidable.not_not, cls, xcs])
local macro_rules | `(tactic| walk_at "ev*") => `(tactic| simp (config := { maxSteps := 4000000 }) only [e_bo, e_bs, e_be, e_oo, e_os, e_oe, e_qn, e_qr, e_qb, e_qc, e_qe, e_qs, e_ln, e_lr, e_lb, e_lc, e_le, e_ls, e_seq, e_next, e_drop, e_ret, e_retN, e_break, e_cont, e_ifS, e_cifS, e_never, e_set, e_cset, e_kset, e_setf, e_seto, e_setu, e_seta, e_kf, e_ko, e_ku, e_ka, e_asg, e_casg, e_gN, e_gT, e_gT1, e_gs0, e_gs1, e_par, e_cpar, e_kparF, e_for, e_for0, e_for1, e_cfor, e_iseq, e_iseqL, e_iseqT, e_irng, e_rng1, e_rng2, e_vr, e_vf, e_vo, e_va, e_vu, e_vn, e_cc, e_nil, e_cons, e_ccons, e_ccons2, e_valf, e_valo, e_vala, e_alf, e_alo, e_vl0, e_vl1, e_orS, e_orN, e_f1, e_ck1, e_cf2, e_ck2, e_ckN, e_f2, e_fN, e_k1, e_k2, e_kN, e_fz, e_cfrz, e_kff, e_kfo, e_kfa, e_kfzo, e_kfzf, e_fl0, e_flf, e_flo, e_tup, e_lst, e_kdt, e_kdl, e_test, e_trv, e_kt, e_bl, e_tb, e_ti, e_tn, e_tl, e_tt, e_and, e_cand, e_cor, e_cif, e_or, e_not, e_if, e_yes, e_andV, e_candV, e_corV, e_orV, e_ktru, e_avt, e_avf, e_ovt, e_ovf, e_add, e_addL, e_sub, e_mul, e_fdiv, e_mod, e_pow, e_lt, e_opLe, e_gt, e_ge, e_neg, e_opNot, e_abs, e_lenL, e_lenT, e_list, e_listT, e_tupL, e_tupT, e_eq, e_ne, e_eqI, e_eqS, e_isN, e_isnN, e_ixL, e_ixT, e_ixD, e_keyI, e_keyS, e_partZ, e_partO, e_flZ, e_flO, e_sl, e_csl1, e_csl2, e_csl3, e_noP, e_part, e_kpart, e_ksl, e_slL, e_slS, e_disp, e_cdisp, e_pairs0, e_pairs1, e_cps1, e_cps2, e_cps3, e_kdispD, e_kdD, e_kv0, e_kv1, e_dnew, e_isiT, e_isiO, e_kdN, e_kdB, e_kdI, e_kdS, e_kdT, e_kdL, e_kdK, e_kdX, e_is1, e_is2, e_is3, e_is4, e_bint, e_bbool, e_bstr, e_btup, e_blst, e_bdic, e_fld, e_sfld, e_csf1, e_csf2, e_ksfld, e_ksf, e_put0, e_put1, e_gSub, e_gS1, e_cst1, e_cst2, e_kst, e_kst1, e_kst2, e_stD, e_call, e_ccall, e_call0, e_kcall, e_kc1, e_kc2, e_kc2e, e_kc2s, e_kc3, e_le0, e_lef, e_leo, e_lea, e_leao, e_leaf, e_ba0, e_ba1, e_baf, e_bao, e_baa, e_baz, e_bau, e_bag, e_ref, e_reo, e_reu, e_rea, e_reao, e_reaf, e_na0, e_naf, e_nao, e_nau, e_meth, e_cmeth, e_cmeth2, e_meth0, e_kmeth, e_km1, e_make, e_cmake, e_mkM, e_mk1, e_mk1e, e_callN, e_ckw1, e_ckw2, e_kcallK, e_pl0, e_plf, e_pla, e_pick0, e_pick1, e_comp, e_ccomp, e_crest, e_kcomp, e_cD0, e_cD1, e_cDn, e_cD3, e_cD2, e_nox, e_wi0, e_wi1, e_rs0, e_rs1, e_okW, e_okWu, e_okWf, e_body, e_fin, e_fir, e_fie, e_fis, e_frf, e_fro, e_fra, e_fif, e_fio, e_ou0, e_ou1, e_ouf, e_ouo, e_ouu, e_oua, e_oug, e_getK0, e_getK1, e_putD, e_atI0, e_atI1, e_atI2, e_atI3, e_raise, e_craise, e_krf, e_kro, e_try, e_tryn, e_tryr, e_tryb, e_tryc, e_trye, e_wn, e_wb, e_wc, e_wr, e_xf, e_xf1, e_chn, e_ch1, e_ch2, e_ch3, e_ch4,
  Option.bind_some, Option.bind_none, Option.map_some, Option.map_none, Option.getD_some, Option.getD_none, Option.toList_some, Option.isNone_none, Option.isNone_some,
  List.getElem?_cons_zero, List.getElem?_cons_succ, List.getElem?_nil, List.set_cons_zero, List.set_cons_succ, List.set_nil, List.map_cons, List.map_nil, List.length_cons, List.length_nil, List.nil_append, List.cons_append, List.append_nil, List.replicate_succ, List.replicate_zero, List.take_succ_cons, List.take_zero, List.take_nil, List.mem_cons, List.not_mem_nil, List.all_cons, List.all_nil, List.any_cons, List.any_nil, List.lookup_cons, List.lookup_nil, List.nodup_cons, List.nodup_nil,
  Nat.zero_add, Nat.add_zero, Nat.reduceAdd, Nat.reduceSub, Nat.reduceLT, Nat.reduceLeDiff, Nat.reduceEqDiff, Nat.reduceBEq, Nat.zero_le, Nat.succ_ne_zero, Nat.zero_ne_one, Nat.one_ne_zero, Nat.lt_irrefl, Int.lt_irrefl, Int.reduceLT, Int.reduceLE, Int.reduceEq, Int.reduceNe, Int.reduceAdd, Int.reduceSub, Int.reduceNeg, Int.reduceMul, Int.reduceToNat, Int.cast_ofNat_Int, Int.natCast_zero, Int.natCast_one, Int.reducePow, if_true, if_false, reduceIte, reduceCtorEq, or_false, or_true, true_or, false_or, and_true, true_and, and_false, false_and, and_self, decide_true, decide_false, decide_eq_true_eq, Bool.not_true, Bool.not_false, Bool.and_true, Bool.true_and, Bool.and_false, Bool.false_and, Bool.and_self, Bool.or_true, Bool.true_or, Bool.or_false, Bool.false_or, not_true_eq_false, not_false_eq_true, Bool.false_eq_true, Bool.true_eq_false, Bool.not_eq_eq_eq_not, Bool.bne_false, not_true, not_false_iff,
  sz0, sz1, sz2, sz3, sz4, sz5, sz6, sz7, sz8, sz9, sz10, sz11, sz12, sz13, sz14, sz15, sy0, sy1, sy2, sy3, sy4, sy5, sy6, sy7, sy8, sy9, sy10, sy11, sy12, sy13, sy14, sy15, String.reduceEq, String.reduceBEq, str_eq, str_beq, Sum.inr.injEq, Sum.inl.injEq, beq_self_eq_true, ne_eq, eq_self, Bool.not_eq_true, decide_not, Bt.isi, Decidable.not_not, cls, xcs, *])
--!
--! needs lows
theorem sh_int (a : Int) : SeqAt.shaped (.int a) = true := by simp [SeqAt.shaped, PyData.canLay0, PyData.depth]
theorem eq_prT (a : Rat) : eqD (prD a) (prD a) = some true := by
  have sh : SeqAt.shaped (.tuple [.int a.num, .int (a.den : Int)]) = true := by
    simp [SeqAt.shaped, PyData.canLay0, PyData.canLayAll0, PyData.depth, PyData.depthAll]
  have h : eqD (prD a) (prD a) = if (SeqAt.shaped (.tuple [.int a.num, .int (a.den : Int)]) && SeqAt.shaped (.tuple [.int a.num, .int (a.den : Int)])) = true then some (PyData.eqv (.tuple [.int a.num, .int (a.den : Int)]) (.tuple [.int a.num, .int (a.den : Int)])) else none := rfl
  rw [h, sh]
  simp [PyData.eqv, PyData.eqvAll]
theorem eq_blT (b : Bool) : eqD (.bl b) (.bl b) = some true := by
  have h : eqD (.bl b) (.bl b) = if (SeqAt.shaped (.bool b) && SeqAt.shaped (.bool b)) = true then some (PyData.eqv (.bool b) (.bool b)) else none := rfl
  have sh : SeqAt.shaped (.bool b) = true := by simp [SeqAt.shaped, PyData.canLay0, PyData.depth]
  rw [h, sh]
  cases b <;> simp [PyData.eqv]

end Lw

namespace Lw
open PySem PySem.Spec PyProof.Rows L2 Rt Mi
/-! how functions are reckoned -/
local macro_rules | `(tactic| walk_at "ev") => `(tactic| simp (config := { maxSteps := 4000000 }) only [e_bo, e_bs, e_be, e_oo, e_os, e_oe, e_qn, e_qr, e_qb, e_qc, e_qe, e_qs, e_ln, e_lr, e_lb, e_lc, e_le, e_ls, e_seq, e_next, e_drop, e_ret, e_retN, e_break, e_cont, e_ifS, e_cifS, e_never, e_set, e_cset, e_kset, e_setf, e_seto, e_setu, e_seta, e_kf, e_ko, e_ku, e_ka, e_asg, e_casg, e_gN, e_gT, e_gT1, e_gs0, e_gs1, e_par, e_cpar, e_kparF, e_for, e_for0, e_for1, e_cfor, e_iseq, e_iseqL, e_iseqT, e_irng, e_rng1, e_rng2, e_vr, e_vf, e_vo, e_va, e_vu, e_vn, e_cc, e_nil, e_cons, e_ccons, e_ccons2, e_valf, e_valo, e_vala, e_alf, e_alo, e_vl0, e_vl1, e_orS, e_orN, e_f1, e_ck1, e_cf2, e_ck2, e_ckN, e_f2, e_fN, e_k1, e_k2, e_kN, e_fz, e_cfrz, e_kff, e_kfo, e_kfa, e_kfzo, e_kfzf, e_fl0, e_flf, e_flo, e_tup, e_lst, e_kdt, e_kdl, e_test, e_trv, e_kt, e_bl, e_tb, e_ti, e_tn, e_tl, e_tt, e_and, e_cand, e_cor, e_cif, e_or, e_not, e_if, e_yes, e_andV, e_candV, e_corV, e_orV, e_ktru, e_avt, e_avf, e_ovt, e_ovf, e_add, e_addL, e_sub, e_mul, e_fdiv, e_mod, e_pow, e_lt, e_opLe, e_gt, e_ge, e_neg, e_opNot, e_abs, e_lenL, e_lenT, e_list, e_listT, e_tupL, e_tupT, e_eq, e_ne, e_eqI, e_eqS, e_isN, e_isnN, e_ixL, e_ixT, e_ixD, e_keyI, e_keyS, e_partZ, e_partO, e_flZ, e_flO, e_sl, e_csl1, e_csl2, e_csl3, e_noP, e_part, e_kpart, e_ksl, e_slL, e_slS, e_disp, e_cdisp, e_pairs0, e_pairs1, e_cps1, e_cps2, e_cps3, e_kdispD, e_kdD, e_kv0, e_kv1, e_dnew, e_isiT, e_isiO, e_kdN, e_kdB, e_kdI, e_kdS, e_kdT, e_kdL, e_kdK, e_kdX, e_is1, e_is2, e_is3, e_is4, e_bint, e_bbool, e_bstr, e_btup, e_blst, e_bdic, e_fld, e_sfld, e_csf1, e_csf2, e_ksfld, e_ksf, e_put0, e_put1, e_gSub, e_gS1, e_cst1, e_cst2, e_kst, e_kst1, e_kst2, e_stD, e_call, e_ccall, e_call0, e_kcall, e_kc1, e_kc2, e_kc2e, e_kc2s, e_kc3, e_le0, e_lef, e_leo, e_lea, e_leao, e_leaf, e_ba0, e_ba1, e_baf, e_bao, e_baa, e_baz, e_bau, e_bag, e_ref, e_reo, e_reu, e_rea, e_reao, e_reaf, e_na0, e_naf, e_nao, e_nau, e_meth, e_cmeth, e_cmeth2, e_meth0, e_kmeth, e_km1, e_make, e_cmake, e_mkM, e_mk1, e_mk1e, e_callN, e_ckw1, e_ckw2, e_kcallK, e_pl0, e_plf, e_pla, e_pick0, e_pick1, e_comp, e_ccomp, e_crest, e_kcomp, e_cD0, e_cD1, e_cDn, e_cD3, e_cD2, e_nox, e_wi0, e_wi1, e_rs0, e_rs1, e_okW, e_okWu, e_okWf, e_body, e_fin, e_fir, e_fie, e_fis, e_frf, e_fro, e_fra, e_fif, e_fio, e_ou0, e_ou1, e_ouf, e_ouo, e_ouu, e_oua, e_oug, e_getK0, e_getK1, e_putD, e_atI0, e_atI1, e_atI2, e_atI3, e_raise, e_craise, e_krf, e_kro, e_try, e_tryn, e_tryr, e_tryb, e_tryc, e_trye, e_wn, e_wb, e_wc, e_wr, e_xf, e_xf1, e_chn, e_ch1, e_ch2, e_ch3, e_ch4,
  Option.bind_some, Option.bind_none, Option.map_some, Option.map_none, Option.getD_some, Option.getD_none, Option.toList_some, Option.isNone_none, Option.isNone_some,
  List.getElem?_cons_zero, List.getElem?_cons_succ, List.getElem?_nil, List.set_cons_zero, List.set_cons_succ, List.set_nil, List.map_cons, List.map_nil, List.length_cons, List.length_nil, List.nil_append, List.cons_append, List.append_nil, List.replicate_succ, List.replicate_zero, List.take_succ_cons, List.take_zero, List.take_nil, List.mem_cons, List.not_mem_nil, List.all_cons, List.all_nil, List.any_cons, List.any_nil, List.lookup_cons, List.lookup_nil, List.nodup_cons, List.nodup_nil,
  Nat.zero_add, Nat.add_zero, Nat.reduceAdd, Nat.reduceSub, Nat.reduceLT, Nat.reduceLeDiff, Nat.reduceEqDiff, Nat.reduceBEq, Nat.zero_le, Nat.succ_ne_zero, Nat.zero_ne_one, Nat.one_ne_zero, Nat.lt_irrefl, Int.lt_irrefl, Int.reduceLT, Int.reduceLE, Int.reduceEq, Int.reduceNe, Int.reduceAdd, Int.reduceSub, Int.reduceNeg, Int.reduceMul, Int.reduceToNat, Int.cast_ofNat_Int, Int.natCast_zero, Int.natCast_one, Int.reducePow, if_true, if_false, reduceIte, reduceCtorEq, or_false, or_true, true_or, false_or, and_true, true_and, and_false, false_and, and_self, decide_true, decide_false, decide_eq_true_eq, Bool.not_true, Bool.not_false, Bool.and_true, Bool.true_and, Bool.and_false, Bool.false_and, Bool.and_self, Bool.or_true, Bool.true_or, Bool.or_false, Bool.false_or, not_true_eq_false, not_false_eq_true, Bool.false_eq_true, Bool.true_eq_false, Bool.not_eq_eq_eq_not, Bool.bne_false, not_true, not_false_iff,
  sz0, sz1, sz2, sz3, sz4, sz5, sz6, sz7, sz8, sz9, sz10, sz11, sz12, sz13, sz14, sz15, sy0, sy1, sy2, sy3, sy4, sy5, sy6, sy7, sy8, sy9, sy10, sy11, sy12, sy13, sy14, sy15, String.reduceEq, String.reduceBEq, str_eq, str_beq, Sum.inr.injEq, Sum.inl.injEq, beq_self_eq_true, ne_eq, eq_self, Bool.not_eq_true, decide_not, Bt.isi, Decidable.not_not, cls, xcs])
local macro_rules | `(tactic| walk_at "ev*") => `(tactic| simp (config := { maxSteps := 4000000 }) only [e_bo, e_bs, e_be, e_oo, e_os, e_oe, e_qn, e_qr, e_qb, e_qc, e_qe, e_qs, e_ln, e_lr, e_lb, e_lc, e_le, e_ls, e_seq, e_next, e_drop, e_ret, e_retN, e_break, e_cont, e_ifS, e_cifS, e_never, e_set, e_cset, e_kset, e_setf, e_seto, e_setu, e_seta, e_kf, e_ko, e_ku, e_ka, e_asg, e_casg, e_gN, e_gT, e_gT1, e_gs0, e_gs1, e_par, e_cpar, e_kparF, e_for, e_for0, e_for1, e_cfor, e_iseq, e_iseqL, e_iseqT, e_irng, e_rng1, e_rng2, e_vr, e_vf, e_vo, e_va, e_vu, e_vn, e_cc, e_nil, e_cons, e_ccons, e_ccons2, e_valf, e_valo, e_vala, e_alf, e_alo, e_vl0, e_vl1, e_orS, e_orN, e_f1, e_ck1, e_cf2, e_ck2, e_ckN, e_f2, e_fN, e_k1, e_k2, e_kN, e_fz, e_cfrz, e_kff, e_kfo, e_kfa, e_kfzo, e_kfzf, e_fl0, e_flf, e_flo, e_tup, e_lst, e_kdt, e_kdl, e_test, e_trv, e_kt, e_bl, e_tb, e_ti, e_tn, e_tl, e_tt, e_and, e_cand, e_cor, e_cif, e_or, e_not, e_if, e_yes, e_andV, e_candV, e_corV, e_orV, e_ktru, e_avt, e_avf, e_ovt, e_ovf, e_add, e_addL, e_sub, e_mul, e_fdiv, e_mod, e_pow, e_lt, e_opLe, e_gt, e_ge, e_neg, e_opNot, e_abs, e_lenL, e_lenT, e_list, e_listT, e_tupL, e_tupT, e_eq, e_ne, e_eqI, e_eqS, e_isN, e_isnN, e_ixL, e_ixT, e_ixD, e_keyI, e_keyS, e_partZ, e_partO, e_flZ, e_flO, e_sl, e_csl1, e_csl2, e_csl3, e_noP, e_part, e_kpart, e_ksl, e_slL, e_slS, e_disp, e_cdisp, e_pairs0, e_pairs1, e_cps1, e_cps2, e_cps3, e_kdispD, e_kdD, e_kv0, e_kv1, e_dnew, e_isiT, e_isiO, e_kdN, e_kdB, e_kdI, e_kdS, e_kdT, e_kdL, e_kdK, e_kdX, e_is1, e_is2, e_is3, e_is4, e_bint, e_bbool, e_bstr, e_btup, e_blst, e_bdic, e_fld, e_sfld, e_csf1, e_csf2, e_ksfld, e_ksf, e_put0, e_put1, e_gSub, e_gS1, e_cst1, e_cst2, e_kst, e_kst1, e_kst2, e_stD, e_call, e_ccall, e_call0, e_kcall, e_kc1, e_kc2, e_kc2e, e_kc2s, e_kc3, e_le0, e_lef, e_leo, e_lea, e_leao, e_leaf, e_ba0, e_ba1, e_baf, e_bao, e_baa, e_baz, e_bau, e_bag, e_ref, e_reo, e_reu, e_rea, e_reao, e_reaf, e_na0, e_naf, e_nao, e_nau, e_meth, e_cmeth, e_cmeth2, e_meth0, e_kmeth, e_km1, e_make, e_cmake, e_mkM, e_mk1, e_mk1e, e_callN, e_ckw1, e_ckw2, e_kcallK, e_pl0, e_plf, e_pla, e_pick0, e_pick1, e_comp, e_ccomp, e_crest, e_kcomp, e_cD0, e_cD1, e_cDn, e_cD3, e_cD2, e_nox, e_wi0, e_wi1, e_rs0, e_rs1, e_okW, e_okWu, e_okWf, e_body, e_fin, e_fir, e_fie, e_fis, e_frf, e_fro, e_fra, e_fif, e_fio, e_ou0, e_ou1, e_ouf, e_ouo, e_ouu, e_oua, e_oug, e_getK0, e_getK1, e_putD, e_atI0, e_atI1, e_atI2, e_atI3, e_raise, e_craise, e_krf, e_kro, e_try, e_tryn, e_tryr, e_tryb, e_tryc, e_trye, e_wn, e_wb, e_wc, e_wr, e_xf, e_xf1, e_chn, e_ch1, e_ch2, e_ch3, e_ch4,
  Option.bind_some, Option.bind_none, Option.map_some, Option.map_none, Option.getD_some, Option.getD_none, Option.toList_some, Option.isNone_none, Option.isNone_some,
  List.getElem?_cons_zero, List.getElem?_cons_succ, List.getElem?_nil, List.set_cons_zero, List.set_cons_succ, List.set_nil, List.map_cons, List.map_nil, List.length_cons, List.length_nil, List.nil_append, List.cons_append, List.append_nil, List.replicate_succ, List.replicate_zero, List.take_succ_cons, List.take_zero, List.take_nil, List.mem_cons, List.not_mem_nil, List.all_cons, List.all_nil, List.any_cons, List.any_nil, List.lookup_cons, List.lookup_nil, List.nodup_cons, List.nodup_nil,
  Nat.zero_add, Nat.add_zero, Nat.reduceAdd, Nat.reduceSub, Nat.reduceLT, Nat.reduceLeDiff, Nat.reduceEqDiff, Nat.reduceBEq, Nat.zero_le, Nat.succ_ne_zero, Nat.zero_ne_one, Nat.one_ne_zero, Nat.lt_irrefl, Int.lt_irrefl, Int.reduceLT, Int.reduceLE, Int.reduceEq, Int.reduceNe, Int.reduceAdd, Int.reduceSub, Int.reduceNeg, Int.reduceMul, Int.reduceToNat, Int.cast_ofNat_Int, Int.natCast_zero, Int.natCast_one, Int.reducePow, if_true, if_false, reduceIte, reduceCtorEq, or_false, or_true, true_or, false_or, and_true, true_and, and_false, false_and, and_self, decide_true, decide_false, decide_eq_true_eq, Bool.not_true, Bool.not_false, Bool.and_true, Bool.true_and, Bool.and_false, Bool.false_and, Bool.and_self, Bool.or_true, Bool.true_or, Bool.or_false, Bool.false_or, not_true_eq_false, not_false_eq_true, Bool.false_eq_true, Bool.true_eq_false, Bool.not_eq_eq_eq_not, Bool.bne_false, not_true, not_false_iff,
  sz0, sz1, sz2, sz3, sz4, sz5, sz6, sz7, sz8, sz9, sz10, sz11, sz12, sz13, sz14, sz15, sy0, sy1, sy2, sy3, sy4, sy5, sy6, sy7, sy8, sy9, sy10, sy11, sy12, sy13, sy14, sy15, String.reduceEq, String.reduceBEq, str_eq, str_beq, Sum.inr.injEq, Sum.inl.injEq, beq_self_eq_true, ne_eq, eq_self, Bool.not_eq_true, decide_not, Bt.isi, Decidable.not_not, cls, xcs, *])
--!
--! needs shares lows eqs
theorem q_Share_less {n m : Nat} {q r : Rat} (hq : RSz n q) (hr : RSz m r) (hn : n + (m + 2) ≤ 9000) : m_Share_less [.fz (shD q), .fz (shD r)] = .ret (.fz (shD (q + r * ((-1 : Int) : Rat)))) [.fz (shD q), .fz (shD r)] := by
  have w1 := q_Share_times (m := 2) (j := -1) hr (by decide) (by omega)
  have w2 := q_Share_plus hq (rsz_mulI (m := 2) (j := -1) hr (by decide)) hn
  clear hq hr hn
  unfold m_Share_less c_Share_less
  walk_at "ev*"
theorem q_over0 (q : Rat) : m_law_over_nought [.fz (shD q)] = .ret (.fz (.int q.num)) [.fz (shD q)] := by
  have w : m_Share_over [.fz (shD q), .fz (.int 0)] = .exc "Nought" [("top", .int q.num)] [.fz (shD q), .fz (.int 0)] := by
    unfold m_Share_over c_Share_over
    walk_at "ev"
  unfold m_law_over_nought c_law_over_nought
  walk_at "ev*"
theorem q_both {q r : Rat} {j : Int} (hq : RSz 110 q) (hr : RSz 110 r) (hj : j.natAbs < 2 ^ 110) :
    m_law_both_right [.fz (shD q), .fz (shD r), .fz (prD q), .fz (prD r), .fz (.int j)] = .ret (.fz (.bl true)) [.fz (shD q), .fz (shD r), .fz (prD q), .fz (prD r), .fz (.int j)] := by
  have w1 := q_Share_plus hq hr (by decide)
  have w2 := q_add (a := q.num) (b := (q.den : Int)) (c := r.num) (d := (r.den : Int)) (den_ne q) (den_ne r) hq.1 (dsz hq) hr.1 (dsz hr) (by decide)
  rw [Rat.num_divInt_den, Rat.num_divInt_den] at w2
  have w3 := q_Share_less hq hr (by decide)
  have w4 := q_add (a := q.num) (b := (q.den : Int)) (c := 0 - r.num) (d := (r.den : Int)) (den_ne q) (den_ne r) hq.1 (dsz hq) (m := 110) (by rw [Int.zero_sub, Int.natAbs_neg]; exact hr.1) (dsz hr) (by decide)
  have e4 : Rat.divInt (0 - r.num) (r.den : Int) = r * ((-1 : Int) : Rat) := by
    rw [← mulI_eq, show r.num * -1 = 0 - r.num from by omega]
  rw [Rat.num_divInt_den, e4] at w4
  have w5 := q_Share_times hq hj (by decide)
  have w6 := q_low (a := q.num * j) (b := (q.den : Int)) (den_ne q) (pow_le (dsz hq) (by decide))
  rw [mulI_eq] at w6
  have c1 : CMulW q.num j := mulW hq.1 hj (by decide)
  have c2 : CMulW q.num (r.den : Int) := mulW hq.1 (dsz hr) (by decide)
  have c3 : CMulW r.num (q.den : Int) := mulW hr.1 (dsz hq) (by decide)
  have c4 : CMulW (q.den : Int) j := mulW (dsz hq) hj (by decide)
  have w7 : m_Share_below [.fz (shD q), .fz (shD r)] = .ret (.fz (.bl (decide (q.num * (r.den : Int) < r.num * (q.den : Int))))) [.fz (shD q), .fz (shD r)] := by
    clear w1 w2 w3 w4 w5 w6 hq hr hj
    unfold m_Share_below c_Share_below
    walk_at "ev*"
  have d1 : CDivZ q.num (q.den : Int) := divZ (b := 110) (den_ne q) (dsz hq) (by decide) (by decide)
  have w8 : m_Share_whole [.fz (shD q)] = .ret (.fz (.int (q.num.fdiv (q.den : Int)))) [.fz (shD q)] := by
    clear w1 w2 w3 w4 w5 w6 w7 hq hr hj
    unfold m_Share_whole c_Share_whole
    walk_at "ev*"
  have dp := den_pos q
  have fl1 : q.num.fdiv (q.den : Int) * (q.den : Int) ≤ q.num := by
    rw [Int.fdiv_eq_ediv_of_nonneg _ (by omega)]
    exact Int.ediv_mul_le _ (by omega)
  have fl2 : q.num < (q.num.fdiv (q.den : Int) + 1) * (q.den : Int) := by
    rw [Int.fdiv_eq_ediv_of_nonneg _ (by omega)]
    exact Int.lt_ediv_add_one_mul_self _ dp
  have zf : (q.num.fdiv (q.den : Int)).natAbs < 2 ^ 111 := by
    have h1 := hq.1
    rw [Int.fdiv_eq_ediv_of_nonneg _ (by omega)]
    exact Nat.lt_of_le_of_lt (Int.natAbs_ediv_le_natAbs _ _) (pow_le h1 (by decide))
  have zf1 : (q.num.fdiv (q.den : Int) + 1).natAbs < 2 ^ 112 := by omega
  have c5 : CMulW (q.num.fdiv (q.den : Int)) (q.den : Int) := mulW zf (dsz hq) (by decide)
  have c6 : CMulW (q.num.fdiv (q.den : Int) + 1) (q.den : Int) := mulW zf1 (dsz hq) (by decide)
  have p := q_pair
  have e1 := eq_prT
  have e2 := eq_blT
  have w9 := q_over0 q
  by_cases h0 : j = 0
  · clear hq hr hj zf zf1 d1 dp e4
    subst h0
    unfold m_law_both_right c_law_both_right
    walk_at "ev*"
  · have w10 := q_Share_over hq hj h0 (by decide)
    have w11 := q_low (a := q.num) (b := (q.den : Int) * j) (Int.mul_ne_zero (den_ne q) h0) (pow_le (wide_lt (dsz hq) hj) (by decide))
    rw [divI_eq q h0] at w11
    clear hq hr hj zf zf1 d1 dp e4
    unfold m_law_both_right c_law_both_right
    walk_at "ev*"

end Lw

namespace Lw
open PySem PySem.Spec PyProof.Rows L2 Rt Mi
/-! how functions are reckoned -/
local macro_rules | `(tactic| walk_at "ev") => `(tactic| simp (config := { maxSteps := 4000000 }) only [e_bo, e_bs, e_be, e_oo, e_os, e_oe, e_qn, e_qr, e_qb, e_qc, e_qe, e_qs, e_ln, e_lr, e_lb, e_lc, e_le, e_ls, e_seq, e_next, e_drop, e_ret, e_retN, e_break, e_cont, e_ifS, e_cifS, e_never, e_set, e_cset, e_kset, e_setf, e_seto, e_setu, e_seta, e_kf, e_ko, e_ku, e_ka, e_asg, e_casg, e_gN, e_gT, e_gT1, e_gs0, e_gs1, e_par, e_cpar, e_kparF, e_for, e_for0, e_for1, e_cfor, e_iseq, e_iseqL, e_iseqT, e_irng, e_rng1, e_rng2, e_vr, e_vf, e_vo, e_va, e_vu, e_vn, e_cc, e_nil, e_cons, e_ccons, e_ccons2, e_valf, e_valo, e_vala, e_alf, e_alo, e_vl0, e_vl1, e_orS, e_orN, e_f1, e_ck1, e_cf2, e_ck2, e_ckN, e_f2, e_fN, e_k1, e_k2, e_kN, e_fz, e_cfrz, e_kff, e_kfo, e_kfa, e_kfzo, e_kfzf, e_fl0, e_flf, e_flo, e_tup, e_lst, e_kdt, e_kdl, e_test, e_trv, e_kt, e_bl, e_tb, e_ti, e_tn, e_tl, e_tt, e_and, e_cand, e_cor, e_cif, e_or, e_not, e_if, e_yes, e_andV, e_candV, e_corV, e_orV, e_ktru, e_avt, e_avf, e_ovt, e_ovf, e_add, e_addL, e_sub, e_mul, e_fdiv, e_mod, e_pow, e_lt, e_opLe, e_gt, e_ge, e_neg, e_opNot, e_abs, e_lenL, e_lenT, e_list, e_listT, e_tupL, e_tupT, e_eq, e_ne, e_eqI, e_eqS, e_isN, e_isnN, e_ixL, e_ixT, e_ixD, e_keyI, e_keyS, e_partZ, e_partO, e_flZ, e_flO, e_sl, e_csl1, e_csl2, e_csl3, e_noP, e_part, e_kpart, e_ksl, e_slL, e_slS, e_disp, e_cdisp, e_pairs0, e_pairs1, e_cps1, e_cps2, e_cps3, e_kdispD, e_kdD, e_kv0, e_kv1, e_dnew, e_isiT, e_isiO, e_kdN, e_kdB, e_kdI, e_kdS, e_kdT, e_kdL, e_kdK, e_kdX, e_is1, e_is2, e_is3, e_is4, e_bint, e_bbool, e_bstr, e_btup, e_blst, e_bdic, e_fld, e_sfld, e_csf1, e_csf2, e_ksfld, e_ksf, e_put0, e_put1, e_gSub, e_gS1, e_cst1, e_cst2, e_kst, e_kst1, e_kst2, e_stD, e_call, e_ccall, e_call0, e_kcall, e_kc1, e_kc2, e_kc2e, e_kc2s, e_kc3, e_le0, e_lef, e_leo, e_lea, e_leao, e_leaf, e_ba0, e_ba1, e_baf, e_bao, e_baa, e_baz, e_bau, e_bag, e_ref, e_reo, e_reu, e_rea, e_reao, e_reaf, e_na0, e_naf, e_nao, e_nau, e_meth, e_cmeth, e_cmeth2, e_meth0, e_kmeth, e_km1, e_make, e_cmake, e_mkM, e_mk1, e_mk1e, e_callN, e_ckw1, e_ckw2, e_kcallK, e_pl0, e_plf, e_pla, e_pick0, e_pick1, e_comp, e_ccomp, e_crest, e_kcomp, e_cD0, e_cD1, e_cDn, e_cD3, e_cD2, e_nox, e_wi0, e_wi1, e_rs0, e_rs1, e_okW, e_okWu, e_okWf, e_body, e_fin, e_fir, e_fie, e_fis, e_frf, e_fro, e_fra, e_fif, e_fio, e_ou0, e_ou1, e_ouf, e_ouo, e_ouu, e_oua, e_oug, e_getK0, e_getK1, e_putD, e_atI0, e_atI1, e_atI2, e_atI3, e_raise, e_craise, e_krf, e_kro, e_try, e_tryn, e_tryr, e_tryb, e_tryc, e_trye, e_wn, e_wb, e_wc, e_wr, e_xf, e_xf1, e_chn, e_ch1, e_ch2, e_ch3, e_ch4,
  Option.bind_some, Option.bind_none, Option.map_some, Option.map_none, Option.getD_some, Option.getD_none, Option.toList_some, Option.isNone_none, Option.isNone_some,
  List.getElem?_cons_zero, List.getElem?_cons_succ, List.getElem?_nil, List.set_cons_zero, List.set_cons_succ, List.set_nil, List.map_cons, List.map_nil, List.length_cons, List.length_nil, List.nil_append, List.cons_append, List.append_nil, List.replicate_succ, List.replicate_zero, List.take_succ_cons, List.take_zero, List.take_nil, List.mem_cons, List.not_mem_nil, List.all_cons, List.all_nil, List.any_cons, List.any_nil, List.lookup_cons, List.lookup_nil, List.nodup_cons, List.nodup_nil,
  Nat.zero_add, Nat.add_zero, Nat.reduceAdd, Nat.reduceSub, Nat.reduceLT, Nat.reduceLeDiff, Nat.reduceEqDiff, Nat.reduceBEq, Nat.zero_le, Nat.succ_ne_zero, Nat.zero_ne_one, Nat.one_ne_zero, Nat.lt_irrefl, Int.lt_irrefl, Int.reduceLT, Int.reduceLE, Int.reduceEq, Int.reduceNe, Int.reduceAdd, Int.reduceSub, Int.reduceNeg, Int.reduceMul, Int.reduceToNat, Int.cast_ofNat_Int, Int.natCast_zero, Int.natCast_one, Int.reducePow, if_true, if_false, reduceIte, reduceCtorEq, or_false, or_true, true_or, false_or, and_true, true_and, and_false, false_and, and_self, decide_true, decide_false, decide_eq_true_eq, Bool.not_true, Bool.not_false, Bool.and_true, Bool.true_and, Bool.and_false, Bool.false_and, Bool.and_self, Bool.or_true, Bool.true_or, Bool.or_false, Bool.false_or, not_true_eq_false, not_false_eq_true, Bool.false_eq_true, Bool.true_eq_false, Bool.not_eq_eq_eq_not, Bool.bne_false, not_true, not_false_iff,
  sz0, sz1, sz2, sz3, sz4, sz5, sz6, sz7, sz8, sz9, sz10, sz11, sz12, sz13, sz14, sz15, sy0, sy1, sy2, sy3, sy4, sy5, sy6, sy7, sy8, sy9, sy10, sy11, sy12, sy13, sy14, sy15, String.reduceEq, String.reduceBEq, str_eq, str_beq, Sum.inr.injEq, Sum.inl.injEq, beq_self_eq_true, ne_eq, eq_self, Bool.not_eq_true, decide_not, Bt.isi, Decidable.not_not, cls, xcs])
local macro_rules | `(tactic| walk_at "ev*") => `(tactic| simp (config := { maxSteps := 4000000 }) only [e_bo, e_bs, e_be, e_oo, e_os, e_oe, e_qn, e_qr, e_qb, e_qc, e_qe, e_qs, e_ln, e_lr, e_lb, e_lc, e_le, e_ls, e_seq, e_next, e_drop, e_ret, e_retN, e_break, e_cont, e_ifS, e_cifS, e_never, e_set, e_cset, e_kset, e_setf, e_seto, e_setu, e_seta, e_kf, e_ko, e_ku, e_ka, e_asg, e_casg, e_gN, e_gT, e_gT1, e_gs0, e_gs1, e_par, e_cpar, e_kparF, e_for, e_for0, e_for1, e_cfor, e_iseq, e_iseqL, e_iseqT, e_irng, e_rng1, e_rng2, e_vr, e_vf, e_vo, e_va, e_vu, e_vn, e_cc, e_nil, e_cons, e_ccons, e_ccons2, e_valf, e_valo, e_vala, e_alf, e_alo, e_vl0, e_vl1, e_orS, e_orN, e_f1, e_ck1, e_cf2, e_ck2, e_ckN, e_f2, e_fN, e_k1, e_k2, e_kN, e_fz, e_cfrz, e_kff, e_kfo, e_kfa, e_kfzo, e_kfzf, e_fl0, e_flf, e_flo, e_tup, e_lst, e_kdt, e_kdl, e_test, e_trv, e_kt, e_bl, e_tb, e_ti, e_tn, e_tl, e_tt, e_and, e_cand, e_cor, e_cif, e_or, e_not, e_if, e_yes, e_andV, e_candV, e_corV, e_orV, e_ktru, e_avt, e_avf, e_ovt, e_ovf, e_add, e_addL, e_sub, e_mul, e_fdiv, e_mod, e_pow, e_lt, e_opLe, e_gt, e_ge, e_neg, e_opNot, e_abs, e_lenL, e_lenT, e_list, e_listT, e_tupL, e_tupT, e_eq, e_ne, e_eqI, e_eqS, e_isN, e_isnN, e_ixL, e_ixT, e_ixD, e_keyI, e_keyS, e_partZ, e_partO, e_flZ, e_flO, e_sl, e_csl1, e_csl2, e_csl3, e_noP, e_part, e_kpart, e_ksl, e_slL, e_slS, e_disp, e_cdisp, e_pairs0, e_pairs1, e_cps1, e_cps2, e_cps3, e_kdispD, e_kdD, e_kv0, e_kv1, e_dnew, e_isiT, e_isiO, e_kdN, e_kdB, e_kdI, e_kdS, e_kdT, e_kdL, e_kdK, e_kdX, e_is1, e_is2, e_is3, e_is4, e_bint, e_bbool, e_bstr, e_btup, e_blst, e_bdic, e_fld, e_sfld, e_csf1, e_csf2, e_ksfld, e_ksf, e_put0, e_put1, e_gSub, e_gS1, e_cst1, e_cst2, e_kst, e_kst1, e_kst2, e_stD, e_call, e_ccall, e_call0, e_kcall, e_kc1, e_kc2, e_kc2e, e_kc2s, e_kc3, e_le0, e_lef, e_leo, e_lea, e_leao, e_leaf, e_ba0, e_ba1, e_baf, e_bao, e_baa, e_baz, e_bau, e_bag, e_ref, e_reo, e_reu, e_rea, e_reao, e_reaf, e_na0, e_naf, e_nao, e_nau, e_meth, e_cmeth, e_cmeth2, e_meth0, e_kmeth, e_km1, e_make, e_cmake, e_mkM, e_mk1, e_mk1e, e_callN, e_ckw1, e_ckw2, e_kcallK, e_pl0, e_plf, e_pla, e_pick0, e_pick1, e_comp, e_ccomp, e_crest, e_kcomp, e_cD0, e_cD1, e_cDn, e_cD3, e_cD2, e_nox, e_wi0, e_wi1, e_rs0, e_rs1, e_okW, e_okWu, e_okWf, e_body, e_fin, e_fir, e_fie, e_fis, e_frf, e_fro, e_fra, e_fif, e_fio, e_ou0, e_ou1, e_ouf, e_ouo, e_ouu, e_oua, e_oug, e_getK0, e_getK1, e_putD, e_atI0, e_atI1, e_atI2, e_atI3, e_raise, e_craise, e_krf, e_kro, e_try, e_tryn, e_tryr, e_tryb, e_tryc, e_trye, e_wn, e_wb, e_wc, e_wr, e_xf, e_xf1, e_chn, e_ch1, e_ch2, e_ch3, e_ch4,
  Option.bind_some, Option.bind_none, Option.map_some, Option.map_none, Option.getD_some, Option.getD_none, Option.toList_some, Option.isNone_none, Option.isNone_some,
  List.getElem?_cons_zero, List.getElem?_cons_succ, List.getElem?_nil, List.set_cons_zero, List.set_cons_succ, List.set_nil, List.map_cons, List.map_nil, List.length_cons, List.length_nil, List.nil_append, List.cons_append, List.append_nil, List.replicate_succ, List.replicate_zero, List.take_succ_cons, List.take_zero, List.take_nil, List.mem_cons, List.not_mem_nil, List.all_cons, List.all_nil, List.any_cons, List.any_nil, List.lookup_cons, List.lookup_nil, List.nodup_cons, List.nodup_nil,
  Nat.zero_add, Nat.add_zero, Nat.reduceAdd, Nat.reduceSub, Nat.reduceLT, Nat.reduceLeDiff, Nat.reduceEqDiff, Nat.reduceBEq, Nat.zero_le, Nat.succ_ne_zero, Nat.zero_ne_one, Nat.one_ne_zero, Nat.lt_irrefl, Int.lt_irrefl, Int.reduceLT, Int.reduceLE, Int.reduceEq, Int.reduceNe, Int.reduceAdd, Int.reduceSub, Int.reduceNeg, Int.reduceMul, Int.reduceToNat, Int.cast_ofNat_Int, Int.natCast_zero, Int.natCast_one, Int.reducePow, if_true, if_false, reduceIte, reduceCtorEq, or_false, or_true, true_or, false_or, and_true, true_and, and_false, false_and, and_self, decide_true, decide_false, decide_eq_true_eq, Bool.not_true, Bool.not_false, Bool.and_true, Bool.true_and, Bool.and_false, Bool.false_and, Bool.and_self, Bool.or_true, Bool.true_or, Bool.or_false, Bool.false_or, not_true_eq_false, not_false_eq_true, Bool.false_eq_true, Bool.true_eq_false, Bool.not_eq_eq_eq_not, Bool.bne_false, not_true, not_false_iff,
  sz0, sz1, sz2, sz3, sz4, sz5, sz6, sz7, sz8, sz9, sz10, sz11, sz12, sz13, sz14, sz15, sy0, sy1, sy2, sy3, sy4, sy5, sy6, sy7, sy8, sy9, sy10, sy11, sy12, sy13, sy14, sy15, String.reduceEq, String.reduceBEq, str_eq, str_beq, Sum.inr.injEq, Sum.inl.injEq, beq_self_eq_true, ne_eq, eq_self, Bool.not_eq_true, decide_not, Bt.isi, Decidable.not_not, cls, xcs, *])
--!
--! needs lows pen
theorem gcd_consec {m : Int} (h : 0 < m) : Int.gcd m (m + 1) = 1 := by
  rw [Int.gcd_comm]
  have : Int.gcd (m + 1) m = Int.gcd 1 m := by
    have e : m + 1 = 1 + 1 * m := by omega
    rw [e, Int.gcd_add_mul_right_left]
  rw [this]
  simp
theorem consec {m : Int} (h : 0 < m) : (Rat.divInt m (m + 1)).num = m ∧ ((Rat.divInt m (m + 1)).den : Int) = m + 1 := by
  have h0 : m + 1 ≠ 0 := by omega
  have p1 := part_top (a := m) h0
  have p2 := part_bot (a := m) h0
  rw [if_neg (by omega), gcd_consec h] at p1 p2
  refine ⟨p1.symm.trans ?_, p2.symm.trans ?_⟩
  · exact Int.fdiv_one m
  · exact Int.fdiv_one _
theorem same_den {a b : Int} (h : 0 < b) (e : ((Rat.divInt a b).den : Int) = b) : (Rat.divInt a b).num = a := by
  have h0 : b ≠ 0 := by omega
  have p1 := part_top (a := a) h0
  have p2 := part_bot (a := a) h0
  rw [if_neg (by omega)] at p1 p2
  rw [e] at p2
  have hg : (0 : Int) < ((Int.gcd a b : Nat) : Int) := by
    have := Int.gcd_pos_of_ne_zero_right a h0
    omega
  obtain ⟨t, ht⟩ : ((Int.gcd a b : Nat) : Int) ∣ b := Int.gcd_dvd_right a b
  have e1 : ((Int.gcd a b : Nat) : Int) = 1 := by
    generalize ((Int.gcd a b : Nat) : Int) = g at *
    have p3 : b.fdiv g = t := by rw [ht]; exact Int.mul_fdiv_cancel_left _ (by omega)
    rw [p2] at p3
    subst p3
    have : b * g = b * 1 := by rw [Int.mul_comm, ← ht, Int.mul_one]
    exact Int.eq_of_mul_eq_mul_left h0 this
  rw [e1] at p1
  rw [← p1]
  exact Int.fdiv_one a
theorem pen_mono {n m : Nat} {d : D} (h : PenOk n d) (l : n ≤ m) : PenOk m d := by
  obtain ⟨cs, a, b, e, h1, h2, h3⟩ := h
  exact ⟨cs, a, b, e, h1, by omega, h3⟩

end Lw

namespace Lw
open PySem PySem.Spec PyProof.Rows L2 Rt Mi
/-! how functions are reckoned -/
local macro_rules | `(tactic| walk_at "ev") => `(tactic| simp (config := { maxSteps := 4000000 }) only [e_bo, e_bs, e_be, e_oo, e_os, e_oe, e_qn, e_qr, e_qb, e_qc, e_qe, e_qs, e_ln, e_lr, e_lb, e_lc, e_le, e_ls, e_seq, e_next, e_drop, e_ret, e_retN, e_break, e_cont, e_ifS, e_cifS, e_never, e_set, e_cset, e_kset, e_setf, e_seto, e_setu, e_seta, e_kf, e_ko, e_ku, e_ka, e_asg, e_casg, e_gN, e_gT, e_gT1, e_gs0, e_gs1, e_par, e_cpar, e_kparF, e_for, e_for0, e_for1, e_cfor, e_iseq, e_iseqL, e_iseqT, e_irng, e_rng1, e_rng2, e_vr, e_vf, e_vo, e_va, e_vu, e_vn, e_cc, e_nil, e_cons, e_ccons, e_ccons2, e_valf, e_valo, e_vala, e_alf, e_alo, e_vl0, e_vl1, e_orS, e_orN, e_f1, e_ck1, e_cf2, e_ck2, e_ckN, e_f2, e_fN, e_k1, e_k2, e_kN, e_fz, e_cfrz, e_kff, e_kfo, e_kfa, e_kfzo, e_kfzf, e_fl0, e_flf, e_flo, e_tup, e_lst, e_kdt, e_kdl, e_test, e_trv, e_kt, e_bl, e_tb, e_ti, e_tn, e_tl, e_tt, e_and, e_cand, e_cor, e_cif, e_or, e_not, e_if, e_yes, e_andV, e_candV, e_corV, e_orV, e_ktru, e_avt, e_avf, e_ovt, e_ovf, e_add, e_addL, e_sub, e_mul, e_fdiv, e_mod, e_pow, e_lt, e_opLe, e_gt, e_ge, e_neg, e_opNot, e_abs, e_lenL, e_lenT, e_list, e_listT, e_tupL, e_tupT, e_eq, e_ne, e_eqI, e_eqS, e_isN, e_isnN, e_ixL, e_ixT, e_ixD, e_keyI, e_keyS, e_partZ, e_partO, e_flZ, e_flO, e_sl, e_csl1, e_csl2, e_csl3, e_noP, e_part, e_kpart, e_ksl, e_slL, e_slS, e_disp, e_cdisp, e_pairs0, e_pairs1, e_cps1, e_cps2, e_cps3, e_kdispD, e_kdD, e_kv0, e_kv1, e_dnew, e_isiT, e_isiO, e_kdN, e_kdB, e_kdI, e_kdS, e_kdT, e_kdL, e_kdK, e_kdX, e_is1, e_is2, e_is3, e_is4, e_bint, e_bbool, e_bstr, e_btup, e_blst, e_bdic, e_fld, e_sfld, e_csf1, e_csf2, e_ksfld, e_ksf, e_put0, e_put1, e_gSub, e_gS1, e_cst1, e_cst2, e_kst, e_kst1, e_kst2, e_stD, e_call, e_ccall, e_call0, e_kcall, e_kc1, e_kc2, e_kc2e, e_kc2s, e_kc3, e_le0, e_lef, e_leo, e_lea, e_leao, e_leaf, e_ba0, e_ba1, e_baf, e_bao, e_baa, e_baz, e_bau, e_bag, e_ref, e_reo, e_reu, e_rea, e_reao, e_reaf, e_na0, e_naf, e_nao, e_nau, e_meth, e_cmeth, e_cmeth2, e_meth0, e_kmeth, e_km1, e_make, e_cmake, e_mkM, e_mk1, e_mk1e, e_callN, e_ckw1, e_ckw2, e_kcallK, e_pl0, e_plf, e_pla, e_pick0, e_pick1, e_comp, e_ccomp, e_crest, e_kcomp, e_cD0, e_cD1, e_cDn, e_cD3, e_cD2, e_nox, e_wi0, e_wi1, e_rs0, e_rs1, e_okW, e_okWu, e_okWf, e_body, e_fin, e_fir, e_fie, e_fis, e_frf, e_fro, e_fra, e_fif, e_fio, e_ou0, e_ou1, e_ouf, e_ouo, e_ouu, e_oua, e_oug, e_getK0, e_getK1, e_putD, e_atI0, e_atI1, e_atI2, e_atI3, e_raise, e_craise, e_krf, e_kro, e_try, e_tryn, e_tryr, e_tryb, e_tryc, e_trye, e_wn, e_wb, e_wc, e_wr, e_xf, e_xf1, e_chn, e_ch1, e_ch2, e_ch3, e_ch4,
  Option.bind_some, Option.bind_none, Option.map_some, Option.map_none, Option.getD_some, Option.getD_none, Option.toList_some, Option.isNone_none, Option.isNone_some,
  List.getElem?_cons_zero, List.getElem?_cons_succ, List.getElem?_nil, List.set_cons_zero, List.set_cons_succ, List.set_nil, List.map_cons, List.map_nil, List.length_cons, List.length_nil, List.nil_append, List.cons_append, List.append_nil, List.replicate_succ, List.replicate_zero, List.take_succ_cons, List.take_zero, List.take_nil, List.mem_cons, List.not_mem_nil, List.all_cons, List.all_nil, List.any_cons, List.any_nil, List.lookup_cons, List.lookup_nil, List.nodup_cons, List.nodup_nil,
  Nat.zero_add, Nat.add_zero, Nat.reduceAdd, Nat.reduceSub, Nat.reduceLT, Nat.reduceLeDiff, Nat.reduceEqDiff, Nat.reduceBEq, Nat.zero_le, Nat.succ_ne_zero, Nat.zero_ne_one, Nat.one_ne_zero, Nat.lt_irrefl, Int.lt_irrefl, Int.reduceLT, Int.reduceLE, Int.reduceEq, Int.reduceNe, Int.reduceAdd, Int.reduceSub, Int.reduceNeg, Int.reduceMul, Int.reduceToNat, Int.cast_ofNat_Int, Int.natCast_zero, Int.natCast_one, Int.reducePow, if_true, if_false, reduceIte, reduceCtorEq, or_false, or_true, true_or, false_or, and_true, true_and, and_false, false_and, and_self, decide_true, decide_false, decide_eq_true_eq, Bool.not_true, Bool.not_false, Bool.and_true, Bool.true_and, Bool.and_false, Bool.false_and, Bool.and_self, Bool.or_true, Bool.true_or, Bool.or_false, Bool.false_or, not_true_eq_false, not_false_eq_true, Bool.false_eq_true, Bool.true_eq_false, Bool.not_eq_eq_eq_not, Bool.bne_false, not_true, not_false_iff,
  sz0, sz1, sz2, sz3, sz4, sz5, sz6, sz7, sz8, sz9, sz10, sz11, sz12, sz13, sz14, sz15, sy0, sy1, sy2, sy3, sy4, sy5, sy6, sy7, sy8, sy9, sy10, sy11, sy12, sy13, sy14, sy15, String.reduceEq, String.reduceBEq, str_eq, str_beq, Sum.inr.injEq, Sum.inl.injEq, beq_self_eq_true, ne_eq, eq_self, Bool.not_eq_true, decide_not, Bt.isi, Decidable.not_not, cls, xcs])
local macro_rules | `(tactic| walk_at "ev*") => `(tactic| simp (config := { maxSteps := 4000000 }) only [e_bo, e_bs, e_be, e_oo, e_os, e_oe, e_qn, e_qr, e_qb, e_qc, e_qe, e_qs, e_ln, e_lr, e_lb, e_lc, e_le, e_ls, e_seq, e_next, e_drop, e_ret, e_retN, e_break, e_cont, e_ifS, e_cifS, e_never, e_set, e_cset, e_kset, e_setf, e_seto, e_setu, e_seta, e_kf, e_ko, e_ku, e_ka, e_asg, e_casg, e_gN, e_gT, e_gT1, e_gs0, e_gs1, e_par, e_cpar, e_kparF, e_for, e_for0, e_for1, e_cfor, e_iseq, e_iseqL, e_iseqT, e_irng, e_rng1, e_rng2, e_vr, e_vf, e_vo, e_va, e_vu, e_vn, e_cc, e_nil, e_cons, e_ccons, e_ccons2, e_valf, e_valo, e_vala, e_alf, e_alo, e_vl0, e_vl1, e_orS, e_orN, e_f1, e_ck1, e_cf2, e_ck2, e_ckN, e_f2, e_fN, e_k1, e_k2, e_kN, e_fz, e_cfrz, e_kff, e_kfo, e_kfa, e_kfzo, e_kfzf, e_fl0, e_flf, e_flo, e_tup, e_lst, e_kdt, e_kdl, e_test, e_trv, e_kt, e_bl, e_tb, e_ti, e_tn, e_tl, e_tt, e_and, e_cand, e_cor, e_cif, e_or, e_not, e_if, e_yes, e_andV, e_candV, e_corV, e_orV, e_ktru, e_avt, e_avf, e_ovt, e_ovf, e_add, e_addL, e_sub, e_mul, e_fdiv, e_mod, e_pow, e_lt, e_opLe, e_gt, e_ge, e_neg, e_opNot, e_abs, e_lenL, e_lenT, e_list, e_listT, e_tupL, e_tupT, e_eq, e_ne, e_eqI, e_eqS, e_isN, e_isnN, e_ixL, e_ixT, e_ixD, e_keyI, e_keyS, e_partZ, e_partO, e_flZ, e_flO, e_sl, e_csl1, e_csl2, e_csl3, e_noP, e_part, e_kpart, e_ksl, e_slL, e_slS, e_disp, e_cdisp, e_pairs0, e_pairs1, e_cps1, e_cps2, e_cps3, e_kdispD, e_kdD, e_kv0, e_kv1, e_dnew, e_isiT, e_isiO, e_kdN, e_kdB, e_kdI, e_kdS, e_kdT, e_kdL, e_kdK, e_kdX, e_is1, e_is2, e_is3, e_is4, e_bint, e_bbool, e_bstr, e_btup, e_blst, e_bdic, e_fld, e_sfld, e_csf1, e_csf2, e_ksfld, e_ksf, e_put0, e_put1, e_gSub, e_gS1, e_cst1, e_cst2, e_kst, e_kst1, e_kst2, e_stD, e_call, e_ccall, e_call0, e_kcall, e_kc1, e_kc2, e_kc2e, e_kc2s, e_kc3, e_le0, e_lef, e_leo, e_lea, e_leao, e_leaf, e_ba0, e_ba1, e_baf, e_bao, e_baa, e_baz, e_bau, e_bag, e_ref, e_reo, e_reu, e_rea, e_reao, e_reaf, e_na0, e_naf, e_nao, e_nau, e_meth, e_cmeth, e_cmeth2, e_meth0, e_kmeth, e_km1, e_make, e_cmake, e_mkM, e_mk1, e_mk1e, e_callN, e_ckw1, e_ckw2, e_kcallK, e_pl0, e_plf, e_pla, e_pick0, e_pick1, e_comp, e_ccomp, e_crest, e_kcomp, e_cD0, e_cD1, e_cDn, e_cD3, e_cD2, e_nox, e_wi0, e_wi1, e_rs0, e_rs1, e_okW, e_okWu, e_okWf, e_body, e_fin, e_fir, e_fie, e_fis, e_frf, e_fro, e_fra, e_fif, e_fio, e_ou0, e_ou1, e_ouf, e_ouo, e_ouu, e_oua, e_oug, e_getK0, e_getK1, e_putD, e_atI0, e_atI1, e_atI2, e_atI3, e_raise, e_craise, e_krf, e_kro, e_try, e_tryn, e_tryr, e_tryb, e_tryc, e_trye, e_wn, e_wb, e_wc, e_wr, e_xf, e_xf1, e_chn, e_ch1, e_ch2, e_ch3, e_ch4,
  Option.bind_some, Option.bind_none, Option.map_some, Option.map_none, Option.getD_some, Option.getD_none, Option.toList_some, Option.isNone_none, Option.isNone_some,
  List.getElem?_cons_zero, List.getElem?_cons_succ, List.getElem?_nil, List.set_cons_zero, List.set_cons_succ, List.set_nil, List.map_cons, List.map_nil, List.length_cons, List.length_nil, List.nil_append, List.cons_append, List.append_nil, List.replicate_succ, List.replicate_zero, List.take_succ_cons, List.take_zero, List.take_nil, List.mem_cons, List.not_mem_nil, List.all_cons, List.all_nil, List.any_cons, List.any_nil, List.lookup_cons, List.lookup_nil, List.nodup_cons, List.nodup_nil,
  Nat.zero_add, Nat.add_zero, Nat.reduceAdd, Nat.reduceSub, Nat.reduceLT, Nat.reduceLeDiff, Nat.reduceEqDiff, Nat.reduceBEq, Nat.zero_le, Nat.succ_ne_zero, Nat.zero_ne_one, Nat.one_ne_zero, Nat.lt_irrefl, Int.lt_irrefl, Int.reduceLT, Int.reduceLE, Int.reduceEq, Int.reduceNe, Int.reduceAdd, Int.reduceSub, Int.reduceNeg, Int.reduceMul, Int.reduceToNat, Int.cast_ofNat_Int, Int.natCast_zero, Int.natCast_one, Int.reducePow, if_true, if_false, reduceIte, reduceCtorEq, or_false, or_true, true_or, false_or, and_true, true_and, and_false, false_and, and_self, decide_true, decide_false, decide_eq_true_eq, Bool.not_true, Bool.not_false, Bool.and_true, Bool.true_and, Bool.and_false, Bool.false_and, Bool.and_self, Bool.or_true, Bool.true_or, Bool.or_false, Bool.false_or, not_true_eq_false, not_false_eq_true, Bool.false_eq_true, Bool.true_eq_false, Bool.not_eq_eq_eq_not, Bool.bne_false, not_true, not_false_iff,
  sz0, sz1, sz2, sz3, sz4, sz5, sz6, sz7, sz8, sz9, sz10, sz11, sz12, sz13, sz14, sz15, sy0, sy1, sy2, sy3, sy4, sy5, sy6, sy7, sy8, sy9, sy10, sy11, sy12, sy13, sy14, sy15, String.reduceEq, String.reduceBEq, str_eq, str_beq, Sum.inr.injEq, Sum.inl.injEq, beq_self_eq_true, ne_eq, eq_self, Bool.not_eq_true, decide_not, Bt.isi, Decidable.not_not, cls, xcs, *])
--!
--! needs numb both rats
noncomputable def tl_ : FS :=
  (fSeq (fSet 6 (ffrz (fCall m_law_number [] (fcons (fvar 1) fnil))))
    (fSeq (fPar2 7 8 (fcons (ffrz (fMake "Share" .o1 m_Share_init [] (fcons (f2 opIx (fvar 3) (fc (.int 0))) (fcons (f2 opIx (fvar 3) (fc (.int 1))) fnil)))) (fcons (ffrz (fMake "Share" .o1 m_Share_init [] (fcons (f2 opIx (fvar 4) (fc (.int 0))) (fcons (f2 opIx (fvar 4) (fc (.int 1))) fnil)))) fnil)))
    (fSeq (fFor (iSeqF (fLst (fcons (fTup (fcons (fvar 7) (fcons (fvar 8) (fcons (fvar 3) (fcons (fvar 4) fnil))))) (fcons (fTup (fcons (fvar 8) (fcons (fvar 7) (fcons (fvar 4) (fcons (fvar 3) fnil))))) (fcons (fTup (fcons (fvar 7) (fcons (fvar 7) (fcons (fvar 3) (fcons (fvar 3) fnil))))) fnil))))) (gT 4 [(gN 9), (gN 10), (gN 11), (gN 12)])
    lp_law_1)
    (fIfS (fOr (fTest (f2 opNe (fCall m_law_pair [] (fcons (fvar 7) fnil)) (fvar 3))) (fTest (f2 opNe (fCall m_law_pair [] (fcons (fvar 8) fnil)) (fvar 4))))
    (fRet (fc (.bl false))) fNext))))
def TurnOk (ns : List Int) (n : Nat) (o : So) : Prop := ∃ d v2 v3 v4 v5 v6 v7 v8 v9 v10 v11 v12, o = .nx [.fz (.scr ns), .ow .o1 d, v2, v3, v4, v5, v6, v7, v8, v9, v10, v11, v12] ∧ PenOk n d ∧ Dull v2 ∧ Dull v3 ∧ Dull v4 ∧ Dull v5 ∧ Dull v6 ∧ Dull v7 ∧ Dull v8 ∧ Dull v9 ∧ Dull v10 ∧ Dull v11 ∧ Dull v12
theorem q_tail (ns : List Int) {n : Nat} {d : D} {q r : Rat} {v2 v5 v6 v7 v8 v9 v10 v11 v12 : Sl} (hp : PenOk n d) (hn : n ≤ 8000) (hq : RSz 101 q) (hr : RSz 101 r) (h2 : Dull v2) (h5 : Dull v5) (h6 : Dull v6) (h7 : Dull v7) (h8 : Dull v8) (h9 : Dull v9) (h10 : Dull v10) (h11 : Dull v11) (h12 : Dull v12) :
    TurnOk ns (n + 9) (tl_ [.fz (.scr ns), .ow .o1 d, v2, .fz (prD q), .fz (prD r), v5, v6, v7, v8, v9, v10, v11, v12]) := by
  obtain ⟨j, d1, e1, a1, b1, p1⟩ := q_number hp (by omega)
  have hj : j.natAbs < 2 ^ 110 := by omega
  have hq' := rsz_mono hq (show 101 ≤ 110 by decide)
  have hr' := rsz_mono hr (show 101 ≤ 110 by decide)
  have w1 := q_both hq' hr' hj
  have w2 := q_both hr' hq' hj
  have w3 := q_both hq' hq' hj
  have s1 := q_Share_init (a := q.num) (b := (q.den : Int)) (den_ne q) (pow_le (dsz hq) (by decide))
  have s2 := q_Share_init (a := r.num) (b := (r.den : Int)) (den_ne r) (pow_le (dsz hr) (by decide))
  rw [Rat.num_divInt_den] at s1 s2
  have pp := q_pair
  have ee := eq_prT
  have key : TurnOk ns (n + 9) (.nx [.fz (.scr ns), .ow .o1 d1, v2, .fz (prD q), .fz (prD r), v5, .fz (.int j), .fz (shD q), .fz (shD r), .fz (shD q), .fz (shD q), .fz (prD q), .fz (prD q)]) :=
    ⟨d1, _, _, _, _, _, _, _, _, _, _, _, rfl, p1, h2, fun _ => rfl, fun _ => rfl, h5, fun _ => rfl, fun _ => rfl, fun _ => rfl, fun _ => rfl, fun _ => rfl, fun _ => rfl, fun _ => rfl⟩
  clear hp hn hq hr hq' hr' hj a1 b1 p1
  unfold tl_ lp_law_1
  walk_at "ev*"

end Lw

namespace Lw
open PySem PySem.Spec PyProof.Rows L2 Rt Mi
/-! how functions are reckoned -/
local macro_rules | `(tactic| walk_at "ev") => `(tactic| simp (config := { maxSteps := 4000000 }) only [e_bo, e_bs, e_be, e_oo, e_os, e_oe, e_qn, e_qr, e_qb, e_qc, e_qe, e_qs, e_ln, e_lr, e_lb, e_lc, e_le, e_ls, e_seq, e_next, e_drop, e_ret, e_retN, e_break, e_cont, e_ifS, e_cifS, e_never, e_set, e_cset, e_kset, e_setf, e_seto, e_setu, e_seta, e_kf, e_ko, e_ku, e_ka, e_asg, e_casg, e_gN, e_gT, e_gT1, e_gs0, e_gs1, e_par, e_cpar, e_kparF, e_for, e_for0, e_for1, e_cfor, e_iseq, e_iseqL, e_iseqT, e_irng, e_rng1, e_rng2, e_vr, e_vf, e_vo, e_va, e_vu, e_vn, e_cc, e_nil, e_cons, e_ccons, e_ccons2, e_valf, e_valo, e_vala, e_alf, e_alo, e_vl0, e_vl1, e_orS, e_orN, e_f1, e_ck1, e_cf2, e_ck2, e_ckN, e_f2, e_fN, e_k1, e_k2, e_kN, e_fz, e_cfrz, e_kff, e_kfo, e_kfa, e_kfzo, e_kfzf, e_fl0, e_flf, e_flo, e_tup, e_lst, e_kdt, e_kdl, e_test, e_trv, e_kt, e_bl, e_tb, e_ti, e_tn, e_tl, e_tt, e_and, e_cand, e_cor, e_cif, e_or, e_not, e_if, e_yes, e_andV, e_candV, e_corV, e_orV, e_ktru, e_avt, e_avf, e_ovt, e_ovf, e_add, e_addL, e_sub, e_mul, e_fdiv, e_mod, e_pow, e_lt, e_opLe, e_gt, e_ge, e_neg, e_opNot, e_abs, e_lenL, e_lenT, e_list, e_listT, e_tupL, e_tupT, e_eq, e_ne, e_eqI, e_eqS, e_isN, e_isnN, e_ixL, e_ixT, e_ixD, e_keyI, e_keyS, e_partZ, e_partO, e_flZ, e_flO, e_sl, e_csl1, e_csl2, e_csl3, e_noP, e_part, e_kpart, e_ksl, e_slL, e_slS, e_disp, e_cdisp, e_pairs0, e_pairs1, e_cps1, e_cps2, e_cps3, e_kdispD, e_kdD, e_kv0, e_kv1, e_dnew, e_isiT, e_isiO, e_kdN, e_kdB, e_kdI, e_kdS, e_kdT, e_kdL, e_kdK, e_kdX, e_is1, e_is2, e_is3, e_is4, e_bint, e_bbool, e_bstr, e_btup, e_blst, e_bdic, e_fld, e_sfld, e_csf1, e_csf2, e_ksfld, e_ksf, e_put0, e_put1, e_gSub, e_gS1, e_cst1, e_cst2, e_kst, e_kst1, e_kst2, e_stD, e_call, e_ccall, e_call0, e_kcall, e_kc1, e_kc2, e_kc2e, e_kc2s, e_kc3, e_le0, e_lef, e_leo, e_lea, e_leao, e_leaf, e_ba0, e_ba1, e_baf, e_bao, e_baa, e_baz, e_bau, e_bag, e_ref, e_reo, e_reu, e_rea, e_reao, e_reaf, e_na0, e_naf, e_nao, e_nau, e_meth, e_cmeth, e_cmeth2, e_meth0, e_kmeth, e_km1, e_make, e_cmake, e_mkM, e_mk1, e_mk1e, e_callN, e_ckw1, e_ckw2, e_kcallK, e_pl0, e_plf, e_pla, e_pick0, e_pick1, e_comp, e_ccomp, e_crest, e_kcomp, e_cD0, e_cD1, e_cDn, e_cD3, e_cD2, e_nox, e_wi0, e_wi1, e_rs0, e_rs1, e_okW, e_okWu, e_okWf, e_body, e_fin, e_fir, e_fie, e_fis, e_frf, e_fro, e_fra, e_fif, e_fio, e_ou0, e_ou1, e_ouf, e_ouo, e_ouu, e_oua, e_oug, e_getK0, e_getK1, e_putD, e_atI0, e_atI1, e_atI2, e_atI3, e_raise, e_craise, e_krf, e_kro, e_try, e_tryn, e_tryr, e_tryb, e_tryc, e_trye, e_wn, e_wb, e_wc, e_wr, e_xf, e_xf1, e_chn, e_ch1, e_ch2, e_ch3, e_ch4,
  Option.bind_some, Option.bind_none, Option.map_some, Option.map_none, Option.getD_some, Option.getD_none, Option.toList_some, Option.isNone_none, Option.isNone_some,
  List.getElem?_cons_zero, List.getElem?_cons_succ, List.getElem?_nil, List.set_cons_zero, List.set_cons_succ, List.set_nil, List.map_cons, List.map_nil, List.length_cons, List.length_nil, List.nil_append, List.cons_append, List.append_nil, List.replicate_succ, List.replicate_zero, List.take_succ_cons, List.take_zero, List.take_nil, List.mem_cons, List.not_mem_nil, List.all_cons, List.all_nil, List.any_cons, List.any_nil, List.lookup_cons, List.lookup_nil, List.nodup_cons, List.nodup_nil,
  Nat.zero_add, Nat.add_zero, Nat.reduceAdd, Nat.reduceSub, Nat.reduceLT, Nat.reduceLeDiff, Nat.reduceEqDiff, Nat.reduceBEq, Nat.zero_le, Nat.succ_ne_zero, Nat.zero_ne_one, Nat.one_ne_zero, Nat.lt_irrefl, Int.lt_irrefl, Int.reduceLT, Int.reduceLE, Int.reduceEq, Int.reduceNe, Int.reduceAdd, Int.reduceSub, Int.reduceNeg, Int.reduceMul, Int.reduceToNat, Int.cast_ofNat_Int, Int.natCast_zero, Int.natCast_one, Int.reducePow, if_true, if_false, reduceIte, reduceCtorEq, or_false, or_true, true_or, false_or, and_true, true_and, and_false, false_and, and_self, decide_true, decide_false, decide_eq_true_eq, Bool.not_true, Bool.not_false, Bool.and_true, Bool.true_and, Bool.and_false, Bool.false_and, Bool.and_self, Bool.or_true, Bool.true_or, Bool.or_false, Bool.false_or, not_true_eq_false, not_false_eq_true, Bool.false_eq_true, Bool.true_eq_false, Bool.not_eq_eq_eq_not, Bool.bne_false, not_true, not_false_iff,
  sz0, sz1, sz2, sz3, sz4, sz5, sz6, sz7, sz8, sz9, sz10, sz11, sz12, sz13, sz14, sz15, sy0, sy1, sy2, sy3, sy4, sy5, sy6, sy7, sy8, sy9, sy10, sy11, sy12, sy13, sy14, sy15, String.reduceEq, String.reduceBEq, str_eq, str_beq, Sum.inr.injEq, Sum.inl.injEq, beq_self_eq_true, ne_eq, eq_self, Bool.not_eq_true, decide_not, Bt.isi, Decidable.not_not, cls, xcs])
local macro_rules | `(tactic| walk_at "ev*") => `(tactic| simp (config := { maxSteps := 4000000 }) only [e_bo, e_bs, e_be, e_oo, e_os, e_oe, e_qn, e_qr, e_qb, e_qc, e_qe, e_qs, e_ln, e_lr, e_lb, e_lc, e_le, e_ls, e_seq, e_next, e_drop, e_ret, e_retN, e_break, e_cont, e_ifS, e_cifS, e_never, e_set, e_cset, e_kset, e_setf, e_seto, e_setu, e_seta, e_kf, e_ko, e_ku, e_ka, e_asg, e_casg, e_gN, e_gT, e_gT1, e_gs0, e_gs1, e_par, e_cpar, e_kparF, e_for, e_for0, e_for1, e_cfor, e_iseq, e_iseqL, e_iseqT, e_irng, e_rng1, e_rng2, e_vr, e_vf, e_vo, e_va, e_vu, e_vn, e_cc, e_nil, e_cons, e_ccons, e_ccons2, e_valf, e_valo, e_vala, e_alf, e_alo, e_vl0, e_vl1, e_orS, e_orN, e_f1, e_ck1, e_cf2, e_ck2, e_ckN, e_f2, e_fN, e_k1, e_k2, e_kN, e_fz, e_cfrz, e_kff, e_kfo, e_kfa, e_kfzo, e_kfzf, e_fl0, e_flf, e_flo, e_tup, e_lst, e_kdt, e_kdl, e_test, e_trv, e_kt, e_bl, e_tb, e_ti, e_tn, e_tl, e_tt, e_and, e_cand, e_cor, e_cif, e_or, e_not, e_if, e_yes, e_andV, e_candV, e_corV, e_orV, e_ktru, e_avt, e_avf, e_ovt, e_ovf, e_add, e_addL, e_sub, e_mul, e_fdiv, e_mod, e_pow, e_lt, e_opLe, e_gt, e_ge, e_neg, e_opNot, e_abs, e_lenL, e_lenT, e_list, e_listT, e_tupL, e_tupT, e_eq, e_ne, e_eqI, e_eqS, e_isN, e_isnN, e_ixL, e_ixT, e_ixD, e_keyI, e_keyS, e_partZ, e_partO, e_flZ, e_flO, e_sl, e_csl1, e_csl2, e_csl3, e_noP, e_part, e_kpart, e_ksl, e_slL, e_slS, e_disp, e_cdisp, e_pairs0, e_pairs1, e_cps1, e_cps2, e_cps3, e_kdispD, e_kdD, e_kv0, e_kv1, e_dnew, e_isiT, e_isiO, e_kdN, e_kdB, e_kdI, e_kdS, e_kdT, e_kdL, e_kdK, e_kdX, e_is1, e_is2, e_is3, e_is4, e_bint, e_bbool, e_bstr, e_btup, e_blst, e_bdic, e_fld, e_sfld, e_csf1, e_csf2, e_ksfld, e_ksf, e_put0, e_put1, e_gSub, e_gS1, e_cst1, e_cst2, e_kst, e_kst1, e_kst2, e_stD, e_call, e_ccall, e_call0, e_kcall, e_kc1, e_kc2, e_kc2e, e_kc2s, e_kc3, e_le0, e_lef, e_leo, e_lea, e_leao, e_leaf, e_ba0, e_ba1, e_baf, e_bao, e_baa, e_baz, e_bau, e_bag, e_ref, e_reo, e_reu, e_rea, e_reao, e_reaf, e_na0, e_naf, e_nao, e_nau, e_meth, e_cmeth, e_cmeth2, e_meth0, e_kmeth, e_km1, e_make, e_cmake, e_mkM, e_mk1, e_mk1e, e_callN, e_ckw1, e_ckw2, e_kcallK, e_pl0, e_plf, e_pla, e_pick0, e_pick1, e_comp, e_ccomp, e_crest, e_kcomp, e_cD0, e_cD1, e_cDn, e_cD3, e_cD2, e_nox, e_wi0, e_wi1, e_rs0, e_rs1, e_okW, e_okWu, e_okWf, e_body, e_fin, e_fir, e_fie, e_fis, e_frf, e_fro, e_fra, e_fif, e_fio, e_ou0, e_ou1, e_ouf, e_ouo, e_ouu, e_oua, e_oug, e_getK0, e_getK1, e_putD, e_atI0, e_atI1, e_atI2, e_atI3, e_raise, e_craise, e_krf, e_kro, e_try, e_tryn, e_tryr, e_tryb, e_tryc, e_trye, e_wn, e_wb, e_wc, e_wr, e_xf, e_xf1, e_chn, e_ch1, e_ch2, e_ch3, e_ch4,
  Option.bind_some, Option.bind_none, Option.map_some, Option.map_none, Option.getD_some, Option.getD_none, Option.toList_some, Option.isNone_none, Option.isNone_some,
  List.getElem?_cons_zero, List.getElem?_cons_succ, List.getElem?_nil, List.set_cons_zero, List.set_cons_succ, List.set_nil, List.map_cons, List.map_nil, List.length_cons, List.length_nil, List.nil_append, List.cons_append, List.append_nil, List.replicate_succ, List.replicate_zero, List.take_succ_cons, List.take_zero, List.take_nil, List.mem_cons, List.not_mem_nil, List.all_cons, List.all_nil, List.any_cons, List.any_nil, List.lookup_cons, List.lookup_nil, List.nodup_cons, List.nodup_nil,
  Nat.zero_add, Nat.add_zero, Nat.reduceAdd, Nat.reduceSub, Nat.reduceLT, Nat.reduceLeDiff, Nat.reduceEqDiff, Nat.reduceBEq, Nat.zero_le, Nat.succ_ne_zero, Nat.zero_ne_one, Nat.one_ne_zero, Nat.lt_irrefl, Int.lt_irrefl, Int.reduceLT, Int.reduceLE, Int.reduceEq, Int.reduceNe, Int.reduceAdd, Int.reduceSub, Int.reduceNeg, Int.reduceMul, Int.reduceToNat, Int.cast_ofNat_Int, Int.natCast_zero, Int.natCast_one, Int.reducePow, if_true, if_false, reduceIte, reduceCtorEq, or_false, or_true, true_or, false_or, and_true, true_and, and_false, false_and, and_self, decide_true, decide_false, decide_eq_true_eq, Bool.not_true, Bool.not_false, Bool.and_true, Bool.true_and, Bool.and_false, Bool.false_and, Bool.and_self, Bool.or_true, Bool.true_or, Bool.or_false, Bool.false_or, not_true_eq_false, not_false_eq_true, Bool.false_eq_true, Bool.true_eq_false, Bool.not_eq_eq_eq_not, Bool.bne_false, not_true, not_false_iff,
  sz0, sz1, sz2, sz3, sz4, sz5, sz6, sz7, sz8, sz9, sz10, sz11, sz12, sz13, sz14, sz15, sy0, sy1, sy2, sy3, sy4, sy5, sy6, sy7, sy8, sy9, sy10, sy11, sy12, sy13, sy14, sy15, String.reduceEq, String.reduceBEq, str_eq, str_beq, Sum.inr.injEq, Sum.inl.injEq, beq_self_eq_true, ne_eq, eq_self, Bool.not_eq_true, decide_not, Bt.isi, Decidable.not_not, cls, xcs, *])
--!
--! needs tail
theorem turn_mono {ns : List Int} {n m : Nat} {o : So} (h : TurnOk ns n o) (l : n ≤ m) : TurnOk ns m o := by
  obtain ⟨d, v2, v3, v4, v5, v6, v7, v8, v9, v10, v11, v12, e, hp, h⟩ := h
  exact ⟨d, v2, v3, v4, v5, v6, v7, v8, v9, v10, v11, v12, e, pen_mono hp l, h⟩
theorem or_one (b0 : Int) (h : b0.natAbs < 2 ^ 100) : ∃ b : Int, b ≠ 0 ∧ b.natAbs < 2 ^ 100 ∧ ∀ ss, ov1 (fc (.int 1)) (.fz (.int b0), ss) (some (b0 != 0)) = .ok (.fz (.int b), ss) := by
  by_cases z : b0 = 0
  · subst z
    exact ⟨1, by decide, by decide, fun ss => rfl⟩
  · refine ⟨b0, z, h, fun ss => ?_⟩
    have : (b0 != 0) = true := by simpa using z
    rw [this]
    rfl
theorem q_turn (ns : List Int) {n : Nat} {d : D} {i : Int} {v3 v4 v5 v6 v7 v8 v9 v10 v11 v12 : Sl} (hp : PenOk n d) (hn : n ≤ 1000) (h3 : Dull v3) (h4 : Dull v4) (h5 : Dull v5) (h6 : Dull v6) (h7 : Dull v7) (h8 : Dull v8) (h9 : Dull v9) (h10 : Dull v10) (h11 : Dull v11) (h12 : Dull v12) :
    TurnOk ns (n + 48) (lp_law_2 [.fz (.scr ns), .ow .o1 d, .fz (.int i), v3, v4, v5, v6, v7, v8, v9, v10, v11, v12]) := by
  obtain ⟨a, d1, e1, a1, b1, p1⟩ := q_number hp (by omega)
  obtain ⟨b0, d2, e2, a2, b2, p2⟩ := q_number p1 (by omega)
  obtain ⟨b, hb0, hb, ho1⟩ := or_one b0 (by omega)
  obtain ⟨c, d3, e3, a3, b3, p3⟩ := q_number p2 (by omega)
  obtain ⟨f0, d4, e4, a4, b4, p4⟩ := q_number p3 (by omega)
  obtain ⟨f, hf0, hf, ho2⟩ := or_one f0 (by omega)
  obtain ⟨r5, d5, e5, a5, b5, p5⟩ := q_draw (m := 4) p4 (by omega) (by decide) (by decide)
  obtain ⟨r6, d6, e6, a6, b6, p6⟩ := q_draw (m := 5) p5 (by omega) (by decide) (by decide)
  obtain ⟨r7, d7, e7, a7, b7, p7⟩ := q_draw (m := 1000000) p6 (by omega) (by decide) (by decide)
  have l1 := q_low (a := a) hb0 (pow_le hb (by decide))
  have l2 := q_low (a := c) hf0 (pow_le hf (by decide))
  have z1 : RSz 101 (Rat.divInt a b) := rsz_mono (rsz_divInt (n := 100) (by omega) hb hb0) (by decide)
  have z2 : RSz 101 (Rat.divInt c f) := rsz_mono (rsz_divInt (n := 100) (by omega) hf hf0) (by decide)
  generalize Rat.divInt a b = q1 at *
  generalize Rat.divInt c f = q2 at *
  have l3 := q_low (a := q2.num) (b := (q1.den : Int)) (den_ne q1) (pow_le (dsz z1) (by decide))
  have z3 : RSz 101 (Rat.divInt q2.num (q1.den : Int)) := rsz_divInt z2.1 (dsz z1) (den_ne q1)
  have c1 : CPow 10 28 := ⟨by decide, by decide, by decide⟩
  have c2 : CPow 10 6 := ⟨by decide, by decide, by decide⟩
  have sd := same_den (a := q2.num) (den_pos q1)
  -- what is behind the choice
  have dull : ∀ x : Mi.D, Dull (.fz x) := fun _ _ => rfl
  have k0 : TurnOk ns (n + 48) (tl_ [.fz (.scr ns), .ow .o1 d6, .fz (.int i), .fz (prD q1), .fz (prD q2), v5, v6, v7, v8, v9, v10, v11, v12]) :=
    turn_mono (q_tail ns p6 (by omega) z1 z2 (dull _) h5 h6 h7 h8 h9 h10 h11 h12) (by omega)
  have k1 : TurnOk ns (n + 48) (tl_ [.fz (.scr ns), .ow .o1 d6, .fz (.int i), .fz (prD q1), .fz (prD q1), v5, v6, v7, v8, v9, v10, v11, v12]) :=
    turn_mono (q_tail ns p6 (by omega) z1 z1 (dull _) h5 h6 h7 h8 h9 h10 h11 h12) (by omega)
  have k2 : ((Rat.divInt q2.num (q1.den : Int)).den : Int) = (q1.den : Int) → TurnOk ns (n + 48) (tl_ [.fz (.scr ns), .ow .o1 d6, .fz (.int i), .fz (prD q1), .fz (.tup [.int q2.num, .int (q1.den : Int)]), v5, v6, v7, v8, v9, v10, v11, v12]) := fun e => by
    have := turn_mono (q_tail ns p6 (by omega) z1 z3 (dull (.int i)) h5 h6 h7 h8 h9 h10 h11 h12) (show n + 9 + 9 + 9 + 9 + 1 + 1 + 9 ≤ n + 48 by omega)
    unfold prD at this
    rw [sd e, e] at this
    exact this
  have k3 : TurnOk ns (n + 48) (tl_ [.fz (.scr ns), .ow .o1 d7, .fz (.int i), .fz (.tup [.int (10000000000000000000000000000 + r7 - 1), .int (10000000000000000000000000000 + r7)]), .fz (.tup [.int (10000000000000000000000000000 + r7), .int (10000000000000000000000000000 + r7 + 1)]), .fz (.int (10000000000000000000000000000 + r7)), v6, v7, v8, v9, v10, v11, v12]) := by
    have u1 := consec (m := 10000000000000000000000000000 + r7 - 1) (by omega)
    have u2 := consec (m := 10000000000000000000000000000 + r7) (by omega)
    rw [show 10000000000000000000000000000 + r7 - 1 + 1 = 10000000000000000000000000000 + r7 from by omega] at u1
    have y1 : RSz 101 (Rat.divInt (10000000000000000000000000000 + r7 - 1) (10000000000000000000000000000 + r7)) := rsz_divInt (by omega) (by omega) (by omega)
    have y2 : RSz 101 (Rat.divInt (10000000000000000000000000000 + r7) (10000000000000000000000000000 + r7 + 1)) := rsz_divInt (by omega) (by omega) (by omega)
    have := turn_mono (q_tail ns p7 (by omega) y1 y2 (dull (.int i)) (dull (.int (10000000000000000000000000000 + r7))) h6 h7 h8 h9 h10 h11 h12) (show n + 9 + 9 + 9 + 9 + 1 + 1 + 1 + 9 ≤ n + 48 by omega)
    unfold prD at this
    rw [u1.1, u1.2, u2.1, u2.2] at this
    exact this
  clear sd z1 z2 z3 hb0 hb hf0 hf hp hn p1 p2 p3 p4 p5 p6 p7 a1 b1 a2 b2 a3 b3 a4 b4 a5 b5 a6 b6 a7 b7 dull
  unfold lp_law_2
  change TurnOk ns (n + 48) (fSeq _ (fSeq _ (fSeq _ (fSeq _ tl_))) _)
  by_cases q5 : r5 = 0
  · by_cases qd : ((Rat.divInt q2.num (q1.den : Int)).den : Int) = (q1.den : Int)
    · by_cases q6 : r6 = 0
      · walk_at "ev*"
      · have k2 := k2 qd
        walk_at "ev*"
    · by_cases q6 : r6 = 0
      · walk_at "ev*"
      · walk_at "ev*"
  · by_cases q6 : r6 = 0
    · walk_at "ev*"
    · walk_at "ev*"
theorem holds (ns : List Int) (h : ns.length ≤ 63) : ∃ as, m_law [.fz (.scr ns)] = .ret (.fz (.bl true)) as := by
  obtain ⟨d0, hp0, h0⟩ := q_held ns
  have loop : ∃ s', forD (gN 2) lp_law_2 (rangeD 0 7) [.fz (.scr ns), .ow .o1 d0, .un, .un, .un, .un, .un, .un, .un, .un, .un, .un, .un] = .nx s' ∧ TurnOk ns (48 * 7) (.nx s') := by
    refine for_range (fun i ss => TurnOk ns (48 * i) (.nx ss)) ⟨d0, .un, .un, .un, .un, .un, .un, .un, .un, .un, .un, .un, rfl, hp0, fun _ => rfl, fun _ => rfl, fun _ => rfl, fun _ => rfl, fun _ => rfl, fun _ => rfl, fun _ => rfl, fun _ => rfl, fun _ => rfl, fun _ => rfl, fun _ => rfl⟩ ?_
    rintro i ss hi ⟨d, v2, v3, v4, v5, v6, v7, v8, v9, v10, v11, v12, e, hp, h2, h3, h4, h5, h6, h7, h8, h9, h10, h11, h12⟩
    cases e
    have t := q_turn ns (i := 0 + (i : Nat)) hp (by omega) h3 h4 h5 h6 h7 h8 h9 h10 h11 h12
    obtain ⟨d', w2, w3, w4, w5, w6, w7, w8, w9, w10, w11, w12, e, r⟩ := t
    refine ⟨_, _, ?_, .inl e, ⟨d', w2, w3, w4, w5, w6, w7, w8, w9, w10, w11, w12, rfl, r⟩⟩
    clear e r hp
    walk_at "ev*"
  obtain ⟨s', h1, d, v2, v3, v4, v5, v6, v7, v8, v9, v10, v11, v12, e, hp, h2, h3, h4, h5, h6, h7, h8, h9, h10, h11, h12⟩ := loop
  cases e
  have r1 : inRg 7 := by unfold inRg; omega
  clear hp hp0
  unfold m_law c_law
  refine ⟨[.fz (.scr ns)], ?_⟩
  walk_at "ev*"

end Lw

namespace Lw
open PySem PySem.Spec PyProof.Rows L2 Rt Mi
section
variable {P : Program} {w : World} {K : PySem.W.Frag} {mg : Str → Option Value} {base : Heap}
theorem ok_law_held (T : Txt K mg) : FnOk P w K mg base (L2.CX P w) 1 (He.fAd K ("_law_held", none)) (fdA K ("_law_held", none)) ["_law_script"] (spM K m_law_held) :=
  FunD.ok (F_law_held T) sc_law_held (fun _ _ _ _ h => len_body h) fun cdv A outer s H vs Q E hr h => ⟨RS K (fun _ => E) [0] c_law_held, (by unfold c_law_held; exact (pss_one (cs_ret (ps_ret (cv_disp (pe_disp (pps_cons (cv_c (.str _) pe_str) (cv_frz (cv_cb op_list_ok (pe_callTy call_listU (by rfl) (T_free T 0) (by decide +kernel) (ca_cons (pa_cons (cv_sl (pe_slice sl_W (cv_var (pv 0)) (co_no po_none) (co_part (po_some (cv_c (.int _) pe_int))))) (ca_nil pa_nil)))))) (pps_cons (cv_c (.str _) pe_str) (cv_c (.int _) pe_int) (pps_cons (cv_c (.str _) pe_str) (cv_c (.int _) pe_int) pps_nil))) (by rfl) (by rfl) (fun z => by cases z) (by decide))))))), body_ok rfl h⟩
theorem ok_law_low (T : Txt K mg) : FnOk P w K mg base (L2.CX P w) 1 (He.fAd K ("_law_low", none)) (fdA K ("_law_low", none)) ["_law_top", "_law_bottom"] (spM K m_law_low) :=
  FunD.ok (F_law_low T) sc_law_low (fun _ _ _ _ h => len_body h) fun cdv A outer s H vs Q E hr h => ⟨RS K (fun _ => E) [0, 1] c_law_low, (by unfold c_law_low; exact (cs_seq (pss_cons (cs_par (by decide) (by decide) (ps_par (i := 2) (j := 3) rfl sc_law_low.nd rfl rfl (by decide) rfl rfl (ca_cons (pa_cons (cv_cb op_abs_ok (pe_callB call_absU (by rfl) (T_free T 3) (by decide +kernel) (ca_cons (pa_cons (cv_var (pv 0)) (ca_nil pa_nil))))) (ca_cons (pa_cons (cv_cb op_abs_ok (pe_callB call_absU (by rfl) (T_free T 3) (by decide +kernel) (ca_cons (pa_cons (cv_var (pv 1)) (ca_nil pa_nil))))) (ca_nil pa_nil))))) (by rfl)))
    (cs_seq (pss_cons (cs_while (ps_while (passes_of rfl) (ct_op op_gt_ok (pt_cmpR op_gtU (cv_var (pv 3)) (cv_c (.int _) pe_int) (nomark _)))
    (pss_one (cs_par (by decide) (by decide) (ps_par (i := 2) (j := 3) rfl sc_law_low.nd rfl rfl (by decide) rfl rfl (ca_cons (pa_cons (cv_var (pv 3)) (ca_cons (pa_cons (cv_op op_mod_ok (pe_op op_modU (cv_var (pv 2)) (cv_var (pv 3)))) (ca_nil pa_nil))))) (by rfl))))))
    (cs_seq (pss_cons (cs_if (ps_if (ct_op op_lt_ok (pt_cmpR op_ltU (cv_var (pv 1)) (cv_c (.int _) pe_int) (nomark _)))
    (pss_one (cs_set (by decide) (ps_set (i := 2) sc_law_low.nd rfl (by first | exact Or.inl rfl | exact Or.inr rfl) (cv_op op_sub_ok (pe_op op_subU (cv_c (.int _) pe_int) (cv_var (pv 2))))))) cs_nil))
    (pss_one (cs_ret (ps_ret (cv_tup (pe_tup (ca_cons (pa_cons (cv_op op_fdiv_ok (pe_op op_fdivU (cv_var (pv 0)) (cv_var (pv 2)))) (ca_cons (pa_cons (cv_op op_fdiv_ok (pe_op op_fdivU (cv_var (pv 1)) (cv_var (pv 2)))) (ca_nil pa_nil))))))))))))))))), body_ok rfl h⟩
theorem ok_law_draw (T : Txt K mg) : FnOk P w K mg base (L2.CX P w) 1 (He.fAd K ("_law_draw", none)) (fdA K ("_law_draw", none)) ["_law_held_here", "_law_many"] (spM K m_law_draw) :=
  FunD.ok (F_law_draw T) sc_law_draw (fun _ _ _ _ h => len_body h) fun cdv A outer s H vs Q E hr h => ⟨RS K (fun _ => E) [0, 1] c_law_draw, (by unfold c_law_draw; exact (cs_seq (pss_cons (cs_if (ps_if (ct_op op_gt_ok (pt_cmpR op_gtU (cv_op op_ix_ok (pe_ix (ix_U (hu_of hr)) (cv_var (pv 0)) (cv_c (.str _) pe_str) (fun _ _ => rfl))) (cv_c (.int _) pe_int) (nomark _)))
    (cs_seq (pss_cons (cs_set (by decide) (ps_set (i := 2) sc_law_draw.nd rfl (by first | exact Or.inl rfl | exact Or.inr rfl) (cv_op op_mod_ok (pe_op op_modU (cv_op op_ix_ok (pe_ix (ix_U (hu_of hr)) (cv_var (pv 0)) (cv_c (.str _) pe_str) (fun _ _ => rfl))) (cv_var (pv 1))))))
    (cs_seq (pss_cons (cs_asg (on_gSub _ _) (ps_asg (cv_op op_fdiv_ok (pe_op op_fdivU (cv_op op_ix_ok (pe_ix (ix_U (hu_of hr)) (cv_var (pv 0)) (cv_c (.str _) pe_str) (fun _ _ => rfl))) (cv_var (pv 1)))) (cg_sub (pg_sub (cv_var (pv 0)) (cv_c (.str _) pe_str) (set_U (hu_of hr))))))
    (pss_one (cs_ret (ps_ret (cv_var (pv 2))))))))) cs_nil))
    (cs_seq (pss_cons (cs_set (by decide) (ps_set (i := 3) sc_law_draw.nd rfl (by first | exact Or.inl rfl | exact Or.inr rfl) (cv_op op_ix_ok (pe_ix (ix_U (hu_of hr)) (cv_var (pv 0)) (cv_c (.str _) pe_str) (fun _ _ => rfl)))))
    (cs_seq (pss_cons (cs_asg (on_gSub _ _) (ps_asg (cv_op op_add_ok (pe_op op_addU (cv_var (pv 3)) (cv_c (.int _) pe_int))) (cg_sub (pg_sub (cv_var (pv 0)) (cv_c (.str _) pe_str) (set_U (hu_of hr))))))
    (cs_seq (pss_cons (cs_set (by decide) (ps_set (i := 4) sc_law_draw.nd rfl (by first | exact Or.inl rfl | exact Or.inr rfl) (cv_if (pe_ifExp (ct_op op_ne_ok (pt_cmpR (op_neU hr.units) (cv_op op_ix_ok (pe_ix (ix_U (hu_of hr)) (cv_var (pv 0)) (cv_c (.str _) pe_str) (fun _ _ => rfl))) (cv_lst (pe_lst (ca_nil pa_nil))) (nomark _))) (cv_op op_ix_ok (pe_ix (ix_U (hu_of hr)) (cv_op op_ix_ok (pe_ix (ix_U (hu_of hr)) (cv_var (pv 0)) (cv_c (.str _) pe_str) (fun _ _ => rfl))) (cv_op op_mod_ok (pe_op op_modU (cv_var (pv 3)) (cv_cb op_len_ok (pe_callB call_lenU (by rfl) (T_free T 4) (by decide +kernel) (ca_cons (pa_cons (cv_op op_ix_ok (pe_ix (ix_U (hu_of hr)) (cv_var (pv 0)) (cv_c (.str _) pe_str) (fun _ _ => rfl))) (ca_nil pa_nil))))))) (fun _ _ => rfl))) (cv_c (.int _) pe_int)))))
    (cs_seq (pss_cons (cs_if (ps_if (PW.pt (cw_and (pw_and (ct_op op_ge_ok (pt_cmpR op_geU (cv_var (pv 4)) (cv_op op_pow_ok (pe_op op_powU (cv_c (.int _) pe_int) (cv_c (.int _) pe_int))) (nomark _))) (pw_and1 (ct_op op_lt_ok (pt_cmpR op_ltU (cv_var (pv 3)) (cv_cb op_len_ok (pe_callB call_lenU (by rfl) (T_free T 4) (by decide +kernel) (ca_cons (pa_cons (cv_op op_ix_ok (pe_ix (ix_U (hu_of hr)) (cv_var (pv 0)) (cv_c (.str _) pe_str) (fun _ _ => rfl))) (ca_nil pa_nil))))) (nomark _)))))))
    (cs_seq (pss_cons (cs_asg (on_gSub _ _) (ps_asg (cv_op op_fdiv_ok (pe_op op_fdivU (cv_op op_sub_ok (pe_op op_subU (cv_var (pv 4)) (cv_op op_pow_ok (pe_op op_powU (cv_c (.int _) pe_int) (cv_c (.int _) pe_int))))) (cv_var (pv 1)))) (cg_sub (pg_sub (cv_var (pv 0)) (cv_c (.str _) pe_str) (set_U (hu_of hr))))))
    (pss_one (cs_ret (ps_ret (cv_op op_mod_ok (pe_op op_modU (cv_op op_sub_ok (pe_op op_subU (cv_var (pv 4)) (cv_op op_pow_ok (pe_op op_powU (cv_c (.int _) pe_int) (cv_c (.int _) pe_int))))) (cv_var (pv 1))))))))) cs_nil))
    (cs_seq (pss_cons (cs_set (by decide) (ps_set (i := 5) sc_law_draw.nd rfl (by first | exact Or.inl rfl | exact Or.inr rfl) (cv_op op_mod_ok (pe_op op_modU (cv_op op_add_ok (pe_op op_addU (cv_op op_add_ok (pe_op op_addU (cv_op op_add_ok (pe_op op_addU (cv_op op_mul_ok (pe_op op_mulU (cv_op op_mod_ok (pe_op op_modU (cv_var (pv 4)) (cv_c (.int _) pe_int))) (cv_c (.int _) pe_int))) (cv_op op_mul_ok (pe_op op_mulU (cv_op op_mul_ok (pe_op op_mulU (cv_c (.int _) pe_int) (cv_var (pv 3)))) (cv_var (pv 3)))))) (cv_op op_mul_ok (pe_op op_mulU (cv_c (.int _) pe_int) (cv_var (pv 3)))))) (cv_c (.int _) pe_int))) (cv_c (.int _) pe_int)))))
    (cs_seq (pss_cons (cs_set (by decide) (ps_set (i := 5) sc_law_draw.nd rfl (by first | exact Or.inl rfl | exact Or.inr rfl) (cv_op op_mod_ok (pe_op op_modU (cv_op op_add_ok (pe_op op_addU (cv_op op_add_ok (pe_op op_addU (cv_op op_mul_ok (pe_op op_mulU (cv_var (pv 5)) (cv_c (.int _) pe_int))) (cv_op op_fdiv_ok (pe_op op_fdivU (cv_var (pv 5)) (cv_c (.int _) pe_int))))) (cv_c (.int _) pe_int))) (cv_c (.int _) pe_int)))))
    (pss_one (cs_ret (ps_ret (cv_op op_mod_ok (pe_op op_modU (cv_op op_fdiv_ok (pe_op op_fdivU (cv_var (pv 5)) (cv_c (.int _) pe_int))) (cv_var (pv 1)))))))))))))))))))))), body_ok rfl h⟩
theorem ok_law_great (T : Txt K mg) : FnOk P w K mg base (L2.CX P w) 2 (He.fAd K ("_law_great", none)) (fdA K ("_law_great", none)) ["_law_held_here", "_law_many"] (spM K m_law_great) :=
  FunD.ok (F_law_great T) sc_law_great (fun _ _ _ _ h => len_body h) fun cdv A outer s H vs Q E hr h => ⟨RS K (fun _ => E) [0, 1] c_law_great, (by unfold c_law_great; exact (cs_seq (pss_cons (cs_asg (on_T1 (on_cons (on_N 2) (on_cons (on_N 3) on_nil))) (ps_asg (cv_tup (pe_tup (ca_cons (pa_cons (cv_c (.int _) pe_int) (ca_cons (pa_cons (cv_c (.int _) pe_int) (ca_nil pa_nil))))))) (cg_tup (pg_tup rfl (cgs_cons (pgs_cons (cg_name (by decide) (pg_name (i := 2) sc_law_great.nd rfl (by first | exact Or.inl rfl | exact Or.inr rfl))) (cgs_cons (pgs_cons (cg_name (by decide) (pg_name (i := 3) sc_law_great.nd rfl (by first | exact Or.inl rfl | exact Or.inr rfl))) (cgs_nil pgs_nil)))))))))
    (cs_seq (pss_cons (cs_while (ps_while (passes_of rfl) (ct_op op_lt_ok (pt_cmpR op_ltU (cv_var (pv 3)) (cv_var (pv 1)) (nomark _)))
    (pss_one (cs_par (by decide) (by decide) (ps_par (i := 2) (j := 3) rfl sc_law_great.nd rfl rfl (by decide) rfl rfl (ca_cons (pa_cons (cv_frz (cv_op op_add_ok (pe_op op_addU (cv_op op_mul_ok (pe_op op_mulU (cv_var (pv 2)) (cv_op op_pow_ok (pe_op op_powU (cv_c (.int _) pe_int) (cv_c (.int _) pe_int))))) (cv_call .nil (pe_call (ok_law_draw T) (hr.mono (by decide)) rfl (T_glo T 5) (k_law_draw T) (b_law_draw T) .nil pX (ca_cons (pa_cons (cv_var (pv 0)) (ca_cons (pa_cons (cv_op op_pow_ok (pe_op op_powU (cv_c (.int _) pe_int) (cv_c (.int _) pe_int))) (ca_nil pa_nil)))))))))) (ca_cons (pa_cons (cv_frz (cv_op op_mul_ok (pe_op op_mulU (cv_var (pv 3)) (cv_op op_pow_ok (pe_op op_powU (cv_c (.int _) pe_int) (cv_c (.int _) pe_int)))))) (ca_nil pa_nil))))) (by rfl))))))
    (pss_one (cs_ret (ps_ret (cv_op op_mod_ok (pe_op op_modU (cv_var (pv 2)) (cv_var (pv 1)))))))))))), body_ok rfl h⟩
theorem ok_law_number (T : Txt K mg) : FnOk P w K mg base (L2.CX P w) 3 (He.fAd K ("_law_number", none)) (fdA K ("_law_number", none)) ["_law_held_here"] (spM K m_law_number) :=
  FunD.ok (F_law_number T) sc_law_number (fun _ _ _ _ h => len_body h) fun cdv A outer s H vs Q E hr h => ⟨RS K (fun _ => E) [0] c_law_number, (by unfold c_law_number; exact (cs_seq (pss_cons (cs_set (by decide) (ps_set (i := 1) sc_law_number.nd rfl (by first | exact Or.inl rfl | exact Or.inr rfl) (cv_op op_ix_ok (pe_ix (ix_U (hu_of hr)) (cv_lst (pe_lst (ca_cons (pa_cons (cv_frz (cv_call .nil (pe_call (ok_law_draw T) (hr.mono (by decide)) rfl (T_glo T 5) (k_law_draw T) (b_law_draw T) .nil pX (ca_cons (pa_cons (cv_var (pv 0)) (ca_cons (pa_cons (cv_c (.int _) pe_int) (ca_nil pa_nil)))))))) (ca_cons (pa_cons (cv_frz (cv_call .nil (pe_call (ok_law_draw T) (hr.mono (by decide)) rfl (T_glo T 5) (k_law_draw T) (b_law_draw T) .nil pX (ca_cons (pa_cons (cv_var (pv 0)) (ca_cons (pa_cons (cv_op op_pow_ok (pe_op op_powU (cv_c (.int _) pe_int) (cv_c (.int _) pe_int))) (ca_nil pa_nil)))))))) (ca_cons (pa_cons (cv_frz (cv_call .nil (pe_call (ok_law_great T) (hr.mono (by decide)) rfl (T_glo T 6) (k_law_great T) (b_law_great T) .nil pX (ca_cons (pa_cons (cv_var (pv 0)) (ca_cons (pa_cons (cv_op op_pow_ok (pe_op op_powU (cv_c (.int _) pe_int) (cv_c (.int _) pe_int))) (ca_nil pa_nil)))))))) (ca_nil pa_nil))))))))) (cv_call .nil (pe_call (ok_law_draw T) (hr.mono (by decide)) rfl (T_glo T 5) (k_law_draw T) (b_law_draw T) .nil pX (ca_cons (pa_cons (cv_var (pv 0)) (ca_cons (pa_cons (cv_c (.int _) pe_int) (ca_nil pa_nil))))))) (fun _ _ => rfl)))))
    (pss_one (cs_ret (ps_ret (cv_op op_mul_ok (pe_op op_mulU (cv_var (pv 1)) (cv_op op_ix_ok (pe_ix (ix_U (hu_of hr)) (cv_lst (pe_lst (ca_cons (pa_cons (cv_c (.int _) pe_int) (ca_cons (pa_cons (cv_c (.int _) pe_int) (ca_cons (pa_cons (cv_un op_neg_ok (pe_un un_negU (cv_c (.int _) pe_int))) (ca_nil pa_nil))))))))) (cv_call .nil (pe_call (ok_law_draw T) (hr.mono (by decide)) rfl (T_glo T 5) (k_law_draw T) (b_law_draw T) .nil pX (ca_cons (pa_cons (cv_var (pv 0)) (ca_cons (pa_cons (cv_c (.int _) pe_int) (ca_nil pa_nil))))))) (fun _ _ => rfl))))))))))), body_ok rfl h⟩
theorem ok_is_whole (T : Txt K mg) : FnOk P w K mg base (L2.CX P w) 1 (He.fAd K ("is_whole", none)) (fdA K ("is_whole", none)) ["thing"] (spM K m_is_whole) :=
  FunD.ok (F_is_whole T) sc_is_whole (fun _ _ _ _ h => len_body h) fun cdv A outer s H vs Q E hr h => ⟨RS K (fun _ => E) [0] c_is_whole, (by unfold c_is_whole; exact (pss_one (cs_ret (ps_ret (cv_andT (pe_andT (cv_cb (op_isi_ok (cls_ok T)) (pe_callB call_isiW (by rfl) (T_free T 10) (by decide +kernel) (ca_cons (pa_cons (cv_var (pv 0)) (ca_cons (pa_cons (cv_c (.ty _) (pe_bltn (v := .ty "int") rfl (T_free T 9) (by decide +kernel) rfl)) (ca_nil pa_nil))))))) (pe_one (cv_notT (pe_notT (cv_cb (op_isi_ok (cls_ok T)) (pe_callB call_isiW (by rfl) (T_free T 10) (by decide +kernel) (ca_cons (pa_cons (cv_var (pv 0)) (ca_cons (pa_cons (cv_c (.ty _) (pe_bltn (v := .ty "bool") rfl (T_free T 11) (by decide +kernel) rfl)) (ca_nil pa_nil)))))))))))))))), body_ok rfl h⟩
theorem ok_divisor (T : Txt K mg) : FnOk P w K mg base (L2.CX P w) 1 (He.fAd K ("divisor", none)) (fdA K ("divisor", none)) ["one", "other"] (spM K m_divisor) :=
  FunD.ok (F_divisor T) sc_divisor (fun _ _ _ _ h => len_body h) fun cdv A outer s H vs Q E hr h => ⟨RS K (fun _ => E) [] c_divisor, (by unfold c_divisor; exact (cs_seq (pss_cons (cs_par (by decide) (by decide) (ps_par (i := 0) (j := 1) rfl sc_divisor.nd rfl rfl (by decide) rfl rfl (ca_cons (pa_cons (cv_cb op_abs_ok (pe_callB call_absU (by rfl) (T_free T 3) (by decide +kernel) (ca_cons (pa_cons (cv_var (pv 0)) (ca_nil pa_nil))))) (ca_cons (pa_cons (cv_cb op_abs_ok (pe_callB call_absU (by rfl) (T_free T 3) (by decide +kernel) (ca_cons (pa_cons (cv_var (pv 1)) (ca_nil pa_nil))))) (ca_nil pa_nil))))) (by rfl)))
    (cs_seq (pss_cons (cs_while (ps_while (passes_of rfl) (ct_op op_gt_ok (pt_cmpR op_gtU (cv_var (pv 1)) (cv_c (.int _) pe_int) (nomark _)))
    (pss_one (cs_par (by decide) (by decide) (ps_par (i := 0) (j := 1) rfl sc_divisor.nd rfl rfl (by decide) rfl rfl (ca_cons (pa_cons (cv_var (pv 1)) (ca_cons (pa_cons (cv_op op_mod_ok (pe_op op_modU (cv_var (pv 0)) (cv_var (pv 1)))) (ca_nil pa_nil))))) (by rfl))))))
    (pss_one (cs_ret (ps_ret (cv_var (pv 0)))))))))), body_ok rfl h⟩
theorem ok_Share_init (T : Txt K mg) : FnOk P w K mg base (L2.CX P w) 2 (He.fAd K ("Share", some "__init__")) (fdA K ("Share", some "__init__")) ["self", "top", "bottom"] (spM K m_Share_init) :=
  FunD.ok (F_Share_init T) sc_Share_init (fun _ _ _ _ h => len_body h) fun cdv A outer s H vs Q E hr h => ⟨RS K (fun _ => E) [0, 1, 2] c_Share_init, (by unfold c_Share_init; exact (cs_seq (pss_cons (cs_for (on_N 3) (ps_for (passes_of rfl) rfl (ci_seq (pi_seq (cv_tup (pe_tup (ca_cons (pa_cons (cv_var (pv 1)) (ca_cons (pa_cons (cv_var (pv 2)) (ca_nil pa_nil))))))))) (cg_name (by decide) (pg_name (i := 3) sc_Share_init.nd rfl (by first | exact Or.inl rfl | exact Or.inr rfl)))
    (pss_one (cs_if (ps_if (ct_not (pt_not (ct_trv (pt_trv (cv_call .nil (pe_call (ok_is_whole T) (hr.mono (by decide)) rfl (T_glo T 12) (k_is_whole T) (b_is_whole T) .nil pX (ca_cons (pa_cons (cv_var (pv 3)) (ca_nil pa_nil)))))))))
    (pss_one (cs_never ps_never)) cs_nil)))))
    (cs_seq (pss_cons (cs_if (ps_if (ct_op op_eq_ok (pt_cmpR (op_eqU hr.units) (cv_var (pv 2)) (cv_c (.int _) pe_int) (nomark _)))
    (pss_one (cs_never ps_never)) cs_nil))
    (cs_seq (pss_cons (cs_set (by decide) (ps_set (i := 4) sc_Share_init.nd rfl (by first | exact Or.inl rfl | exact Or.inr rfl) (cv_frz (cv_call .nil (pe_call (ok_divisor T) (hr.mono (by decide)) rfl (T_glo T 13) (k_divisor T) (b_divisor T) .nil pX (ca_cons (pa_cons (cv_var (pv 1)) (ca_cons (pa_cons (cv_var (pv 2)) (ca_nil pa_nil))))))))))
    (cs_seq (pss_cons (cs_if (ps_if (ct_op op_lt_ok (pt_cmpR op_ltU (cv_var (pv 2)) (cv_c (.int _) pe_int) (nomark _)))
    (pss_one (cs_set (by decide) (ps_set (i := 4) sc_Share_init.nd rfl (by first | exact Or.inl rfl | exact Or.inr rfl) (cv_op op_sub_ok (pe_op op_subU (cv_c (.int _) pe_int) (cv_var (pv 4))))))) cs_nil))
    (cs_seq (pss_cons (cs_fld (fo_top T) (ps_fld (cv_var (pv 0)) (cv_op op_fdiv_ok (pe_op op_fdivU (cv_var (pv 1)) (cv_var (pv 4)))) rfl))
    (pss_one (cs_fld (fo_bottom T) (ps_fld (cv_var (pv 0)) (cv_op op_fdiv_ok (pe_op op_fdivU (cv_var (pv 2)) (cv_var (pv 4)))) rfl)))))))))))))), body_ok rfl h⟩
theorem ok_law_pair (T : Txt K mg) : FnOk P w K mg base (L2.CX P w) 1 (He.fAd K ("_law_pair", none)) (fdA K ("_law_pair", none)) ["_law_share"] (spM K m_law_pair) :=
  FunD.ok (F_law_pair T) sc_law_pair (fun _ _ _ _ h => len_body h) fun cdv A outer s H vs Q E hr h => ⟨RS K (fun _ => E) [0] c_law_pair, (by unfold c_law_pair; exact (cs_seq (pss_cons (cs_if (ps_if (ct_not (pt_not (ct_trv (pt_trv (cv_cb (op_isi_ok (cls_ok T)) (pe_callB call_isiW (by rfl) (T_free T 10) (by decide +kernel) (ca_cons (pa_cons (cv_var (pv 0)) (ca_cons (pa_cons (cv_c (.obj _) (pe_glob (v := .ref (He.ga K "Share")) rfl (T_glo T 16) rfl)) (ca_nil pa_nil)))))))))))
    (pss_one (cs_ret (ps_ret (cv_c .non pe_non)))) cs_nil))
    (cs_seq (pss_cons (cs_for (on_N 1) (ps_for (passes_of rfl) rfl (ci_seq (pi_seq (cv_tup (pe_tup (ca_cons (pa_cons (cv_fld (fo_top T) (pe_fld (cv_var (pv 0)) (attrBase_of rfl))) (ca_cons (pa_cons (cv_fld (fo_bottom T) (pe_fld (cv_var (pv 0)) (attrBase_of rfl))) (ca_nil pa_nil))))))))) (cg_name (by decide) (pg_name (i := 1) sc_law_pair.nd rfl (by first | exact Or.inl rfl | exact Or.inr rfl)))
    (pss_one (cs_if (ps_if (PW.pt (cw_or (pw_or (ct_not (pt_not (ct_trv (pt_trv (cv_cb (op_isi_ok (cls_ok T)) (pe_callB call_isiW (by rfl) (T_free T 10) (by decide +kernel) (ca_cons (pa_cons (cv_var (pv 1)) (ca_cons (pa_cons (cv_c (.ty _) (pe_bltn (v := .ty "int") rfl (T_free T 9) (by decide +kernel) rfl)) (ca_nil pa_nil))))))))))) (pw_or1 (ct_trv (pt_trv (cv_cb (op_isi_ok (cls_ok T)) (pe_callB call_isiW (by rfl) (T_free T 10) (by decide +kernel) (ca_cons (pa_cons (cv_var (pv 1)) (ca_cons (pa_cons (cv_c (.ty _) (pe_bltn (v := .ty "bool") rfl (T_free T 11) (by decide +kernel) rfl)) (ca_nil pa_nil)))))))))))))
    (pss_one (cs_ret (ps_ret (cv_c .non pe_non)))) cs_nil)))))
    (pss_one (cs_ret (ps_ret (cv_tup (pe_tup (ca_cons (pa_cons (cv_fld (fo_top T) (pe_fld (cv_var (pv 0)) (attrBase_of rfl))) (ca_cons (pa_cons (cv_fld (fo_bottom T) (pe_fld (cv_var (pv 0)) (attrBase_of rfl))) (ca_nil pa_nil))))))))))))))), body_ok rfl h⟩
theorem ok_Share_plus (T : Txt K mg) : FnOk P w K mg base (L2.CX P w) 4 (He.fAd K ("Share", some "plus")) (fdA K ("Share", some "plus")) ["self", "other"] (spM K m_Share_plus) :=
  FunD.ok (F_Share_plus T) sc_Share_plus (fun _ _ _ _ h => len_body h) fun cdv A outer s H vs Q E hr h => ⟨RS K (fun _ => E) [0, 1] c_Share_plus, (by unfold c_Share_plus; exact (pss_one (cs_ret (ps_ret (cv_frz (cv_make (by intro z; cases z) .nil (pe_make (T_mkr T 18) (ok_Share_init T) (hr.mono (by decide)) rfl (T_glo T 16) (b_Share_init_3 T).choose_spec.2 (b_Share_init_3 T).choose_spec.1 pX (ca_cons (pa_cons (cv_frz (cv_op op_add_ok (pe_op op_addU (cv_op op_mul_ok (pe_op op_mulU (cv_fld (fo_top T) (pe_fld (cv_var (pv 0)) (attrBase_of rfl))) (cv_fld (fo_bottom T) (pe_fld (cv_var (pv 1)) (attrBase_of rfl))))) (cv_op op_mul_ok (pe_op op_mulU (cv_fld (fo_top T) (pe_fld (cv_var (pv 1)) (attrBase_of rfl))) (cv_fld (fo_bottom T) (pe_fld (cv_var (pv 0)) (attrBase_of rfl)))))))) (ca_cons (pa_cons (cv_frz (cv_op op_mul_ok (pe_op op_mulU (cv_fld (fo_bottom T) (pe_fld (cv_var (pv 0)) (attrBase_of rfl))) (cv_fld (fo_bottom T) (pe_fld (cv_var (pv 1)) (attrBase_of rfl)))))) (ca_nil pa_nil)))))))))))), body_ok rfl h⟩
theorem ok_law_add (T : Txt K mg) : FnOk P w K mg base (L2.CX P w) 2 (He.fAd K ("_law_add", none)) (fdA K ("_law_add", none)) ["_law_one", "_law_other"] (spM K m_law_add) :=
  FunD.ok (F_law_add T) sc_law_add (fun _ _ _ _ h => len_body h) fun cdv A outer s H vs Q E hr h => ⟨RS K (fun _ => E) [0, 1] c_law_add, (by unfold c_law_add; exact (pss_one (cs_ret (ps_ret (cv_call .nil (pe_call (ok_law_low T) (hr.mono (by decide)) rfl (T_glo T 8) (k_law_low T) (b_law_low T) .nil pX (ca_cons (pa_cons (cv_frz (cv_op op_add_ok (pe_op op_addU (cv_op op_mul_ok (pe_op op_mulU (cv_op op_ix_ok (pe_ix (ix_U (hu_of hr)) (cv_var (pv 0)) (cv_c (.int _) pe_int) (fun _ _ => rfl))) (cv_op op_ix_ok (pe_ix (ix_U (hu_of hr)) (cv_var (pv 1)) (cv_c (.int _) pe_int) (fun _ _ => rfl))))) (cv_op op_mul_ok (pe_op op_mulU (cv_op op_ix_ok (pe_ix (ix_U (hu_of hr)) (cv_var (pv 1)) (cv_c (.int _) pe_int) (fun _ _ => rfl))) (cv_op op_ix_ok (pe_ix (ix_U (hu_of hr)) (cv_var (pv 0)) (cv_c (.int _) pe_int) (fun _ _ => rfl)))))))) (ca_cons (pa_cons (cv_frz (cv_op op_mul_ok (pe_op op_mulU (cv_op op_ix_ok (pe_ix (ix_U (hu_of hr)) (cv_var (pv 0)) (cv_c (.int _) pe_int) (fun _ _ => rfl))) (cv_op op_ix_ok (pe_ix (ix_U (hu_of hr)) (cv_var (pv 1)) (cv_c (.int _) pe_int) (fun _ _ => rfl)))))) (ca_nil pa_nil))))))))))), body_ok rfl h⟩
theorem ok_Share_times (T : Txt K mg) : FnOk P w K mg base (L2.CX P w) 4 (He.fAd K ("Share", some "times")) (fdA K ("Share", some "times")) ["self", "many"] (spM K m_Share_times) :=
  FunD.ok (F_Share_times T) sc_Share_times (fun _ _ _ _ h => len_body h) fun cdv A outer s H vs Q E hr h => ⟨RS K (fun _ => E) [0, 1] c_Share_times, (by unfold c_Share_times; exact (pss_one (cs_ret (ps_ret (cv_frz (cv_make (by intro z; cases z) .nil (pe_make (T_mkr T 18) (ok_Share_init T) (hr.mono (by decide)) rfl (T_glo T 16) (b_Share_init_3 T).choose_spec.2 (b_Share_init_3 T).choose_spec.1 pX (ca_cons (pa_cons (cv_frz (cv_op op_mul_ok (pe_op op_mulU (cv_fld (fo_top T) (pe_fld (cv_var (pv 0)) (attrBase_of rfl))) (cv_var (pv 1))))) (ca_cons (pa_cons (cv_fld (fo_bottom T) (pe_fld (cv_var (pv 0)) (attrBase_of rfl))) (ca_nil pa_nil)))))))))))), body_ok rfl h⟩
theorem ok_Share_less (T : Txt K mg) : FnOk P w K mg base (L2.CX P w) 5 (He.fAd K ("Share", some "less")) (fdA K ("Share", some "less")) ["self", "other"] (spM K m_Share_less) :=
  FunD.ok (F_Share_less T) sc_Share_less (fun _ _ _ _ h => len_body h) fun cdv A outer s H vs Q E hr h => ⟨RS K (fun _ => E) [0, 1] c_Share_less, (by unfold c_Share_less; exact (pss_one (cs_ret (ps_ret (cv_meth .nil (pe_meth (cv_var (pv 0)) (T_cls T 14) (T_meth T 19) (ok_Share_plus T) (hr.mono (by decide)) (b_Share_plus T) .nil pX (ca_cons (pa_cons (cv_frz (cv_meth .nil (pe_meth (cv_var (pv 1)) (T_cls T 14) (T_meth T 22) (ok_Share_times T) (hr.mono (by decide)) (b_Share_times T) .nil pX (ca_cons (pa_cons (cv_un op_neg_ok (pe_un un_negU (cv_c (.int _) pe_int))) (ca_nil pa_nil))) (ht := (mtree (attrBase_of rfl) rfl rfl))))) (ca_nil pa_nil))) (ht := (mtree (attrBase_of rfl) rfl rfl)))))))), body_ok rfl h⟩
theorem ok_Share_below (T : Txt K mg) : FnOk P w K mg base (L2.CX P w) 1 (He.fAd K ("Share", some "below")) (fdA K ("Share", some "below")) ["self", "other"] (spM K m_Share_below) :=
  FunD.ok (F_Share_below T) sc_Share_below (fun _ _ _ _ h => len_body h) fun cdv A outer s H vs Q E hr h => ⟨RS K (fun _ => E) [0, 1] c_Share_below, (by unfold c_Share_below; exact (pss_one (cs_ret (ps_ret (cv_op op_lt_ok (pe_cmpR op_ltU (cv_op op_mul_ok (pe_op op_mulU (cv_fld (fo_top T) (pe_fld (cv_var (pv 0)) (attrBase_of rfl))) (cv_fld (fo_bottom T) (pe_fld (cv_var (pv 1)) (attrBase_of rfl))))) (cv_op op_mul_ok (pe_op op_mulU (cv_fld (fo_top T) (pe_fld (cv_var (pv 1)) (attrBase_of rfl))) (cv_fld (fo_bottom T) (pe_fld (cv_var (pv 0)) (attrBase_of rfl))))) (nomark _))))))), body_ok rfl h⟩
theorem ok_Nought_init (T : Txt K mg) : FnOk P w K mg base (L2.CX P w) 1 (He.fAd K ("Nought", some "__init__")) (fdA K ("Nought", some "__init__")) ["self", "top"] (spIni K "ZeroDivisionError.__new__" tl_Zero (He.ga K "Nought") "top") :=
  FunD.ok (F_Nought_init T) sc_Nought_init (fun _ _ _ _ h => len_ini h) fun cdv A outer s H vs Q E hr h => ⟨_, (pss_cons (ps_expr (pe_xini xu_Zero (by rfl) (T_free T 25) (pa_cons (pv 0) (pa_cons pe_str pa_nil)) (hc := mtree (attrBase_of rfl) rfl rfl))) (pss_cons (ps_put xb_Zero (pv 0) (pv 1)) pss_nil)), ini_body (m := "over nought") rfl h⟩
theorem ok_Share_over (T : Txt K mg) : FnOk P w K mg base (L2.CX P w) 4 (He.fAd K ("Share", some "over")) (fdA K ("Share", some "over")) ["self", "many"] (spM K m_Share_over) :=
  FunD.ok (F_Share_over T) sc_Share_over (fun _ _ _ _ h => len_body h) fun cdv A outer s H vs Q E hr h => ⟨RS K (fun _ => E) [0, 1] c_Share_over, (by unfold c_Share_over; exact (cs_seq (pss_cons (cs_if (ps_if (ct_op op_eq_ok (pt_cmpR (op_eqU hr.units) (cv_var (pv 1)) (cv_c (.int _) pe_int) (nomark _)))
    (pss_one (cs_raiseX rfl tX (pmk_x xb_Zero (xc_Nought T) (xt_Nought T) (xi_Nought T) (xf_Nought T) (ok_Nought_init T) (hr.mono (by decide)) (b_Nought_init T) (pXF tX) (by rfl) (T_glo T 26) (pa_cons (cv_fld (fo_top T) (pe_fld (cv_var (pv 0)) (attrBase_of rfl))) pa_nil)))) cs_nil))
    (pss_one (cs_ret (ps_ret (cv_frz (cv_make (by intro z; cases z) .nil (pe_make (T_mkr T 18) (ok_Share_init T) (hr.mono (by decide)) rfl (T_glo T 16) (b_Share_init_3 T).choose_spec.2 (b_Share_init_3 T).choose_spec.1 pX (ca_cons (pa_cons (cv_fld (fo_top T) (pe_fld (cv_var (pv 0)) (attrBase_of rfl))) (ca_cons (pa_cons (cv_frz (cv_op op_mul_ok (pe_op op_mulU (cv_fld (fo_bottom T) (pe_fld (cv_var (pv 0)) (attrBase_of rfl))) (cv_var (pv 1))))) (ca_nil pa_nil)))))))))))))), body_ok rfl h⟩
theorem ok_Share_whole (T : Txt K mg) : FnOk P w K mg base (L2.CX P w) 1 (He.fAd K ("Share", some "whole")) (fdA K ("Share", some "whole")) ["self"] (spM K m_Share_whole) :=
  FunD.ok (F_Share_whole T) sc_Share_whole (fun _ _ _ _ h => len_body h) fun cdv A outer s H vs Q E hr h => ⟨RS K (fun _ => E) [0] c_Share_whole, (by unfold c_Share_whole; exact (pss_one (cs_ret (ps_ret (cv_op op_fdiv_ok (pe_op op_fdivU (cv_fld (fo_top T) (pe_fld (cv_var (pv 0)) (attrBase_of rfl))) (cv_fld (fo_bottom T) (pe_fld (cv_var (pv 0)) (attrBase_of rfl))))))))), body_ok rfl h⟩
theorem ok_law_over_nought (T : Txt K mg) : FnOk P w K mg base (L2.CX P w) 5 (He.fAd K ("_law_over_nought", none)) (fdA K ("_law_over_nought", none)) ["_law_share"] (spM K m_law_over_nought) :=
  FunD.ok (F_law_over_nought T) sc_law_over_nought (fun _ _ _ _ h => len_body h) fun cdv A outer s H vs Q E hr h => ⟨RS K (fun _ => E) [0] c_law_over_nought, (by unfold c_law_over_nought; exact (cs_seq (pss_cons (cs_set (by decide) (ps_set (i := 1) sc_law_over_nought.nd rfl (by first | exact Or.inl rfl | exact Or.inr rfl) (cv_c .non pe_non)))
    (cs_seq (pss_cons (cs_try (g := (fun fs => fSeq (fXf "top" 1 fs) ((fun _ => fNext) fs))) rfl rfl sc_law_over_nought.nd rfl rfl ⟨by rfl, by decide, .inl (T_glo T 26)⟩ tX (by decide) (long_xf (f := "top") (j := 1) (g := (fun _ => fNext)) long_next) (xm_ok T) (fun W pn xe tk po => (pss_one (cs_drop (ps_expr (cv_methE .nil (pe_methE (cv_var (pv 0)) (T_cls T 14) (T_meth T 27) (ok_Share_over T) (hr.mono (by decide)) (b_Share_over T) .nil (fun σ => passAt tk σ) (ca_cons (pa_cons (cv_c (.int _) pe_int) (ca_nil pa_nil))) (ht := (mtree (attrBase_of rfl) rfl rfl))))))))
    (fun a oe cls d pn hz hv => (xs_fld (g := (fun _ => fNext)) (by decide) (by decide) (ps_set (i := 1) sc_law_over_nought.nd rfl (by first | exact Or.inl rfl | exact Or.inr rfl) (pe_xf (xg_Nought T) (xn_Nought T) hz hv (pv 2) (hb := attrBase_of rfl))) (xs_plain cs_nil))))
    (pss_one (cs_ret (ps_ret (cv_var (pv 1)))))))))), body_ok rfl h⟩
theorem ok_law_both_right (T : Txt K mg) : FnOk P w K mg base (L2.CX P w) 6 (He.fAd K ("_law_both_right", none)) (fdA K ("_law_both_right", none)) ["_law_one", "_law_other", "_law_first", "_law_second", "_law_many"] (spM K m_law_both_right) :=
  FunD.ok (F_law_both_right T) sc_law_both_right (fun _ _ _ _ h => len_body h) fun cdv A outer s H vs Q E hr h => ⟨RS K (fun _ => E) [0, 1, 2, 3, 4] c_law_both_right, (by unfold c_law_both_right; exact (cs_seq (pss_cons (cs_if (ps_if (ct_op op_ne_ok (pt_cmpR (op_neU hr.units) (cv_call .nil (pe_call (ok_law_pair T) (hr.mono (by decide)) rfl (T_glo T 20) (k_law_pair T) (b_law_pair T) .nil pX (ca_cons (pa_cons (cv_frz (cv_meth .nil (pe_meth (cv_var (pv 0)) (T_cls T 14) (T_meth T 19) (ok_Share_plus T) (hr.mono (by decide)) (b_Share_plus T) .nil pX (ca_cons (pa_cons (cv_var (pv 1)) (ca_nil pa_nil))) (ht := (mtree (attrBase_of rfl) rfl rfl))))) (ca_nil pa_nil))))) (cv_call .nil (pe_call (ok_law_add T) (hr.mono (by decide)) rfl (T_glo T 21) (k_law_add T) (b_law_add T) .nil pX (ca_cons (pa_cons (cv_var (pv 2)) (ca_cons (pa_cons (cv_var (pv 3)) (ca_nil pa_nil))))))) (nomark _)))
    (pss_one (cs_ret (ps_ret (cv_c (.bl _) pe_bl)))) cs_nil))
    (cs_seq (pss_cons (cs_if (ps_if (ct_op op_ne_ok (pt_cmpR (op_neU hr.units) (cv_call .nil (pe_call (ok_law_pair T) (hr.mono (by decide)) rfl (T_glo T 20) (k_law_pair T) (b_law_pair T) .nil pX (ca_cons (pa_cons (cv_frz (cv_meth .nil (pe_meth (cv_var (pv 0)) (T_cls T 14) (T_meth T 23) (ok_Share_less T) (hr.mono (by decide)) (b_Share_less T) .nil pX (ca_cons (pa_cons (cv_var (pv 1)) (ca_nil pa_nil))) (ht := (mtree (attrBase_of rfl) rfl rfl))))) (ca_nil pa_nil))))) (cv_call .nil (pe_call (ok_law_add T) (hr.mono (by decide)) rfl (T_glo T 21) (k_law_add T) (b_law_add T) .nil pX (ca_cons (pa_cons (cv_var (pv 2)) (ca_cons (pa_cons (cv_tup (pe_tup (ca_cons (pa_cons (cv_op op_sub_ok (pe_op op_subU (cv_c (.int _) pe_int) (cv_op op_ix_ok (pe_ix (ix_U (hu_of hr)) (cv_var (pv 3)) (cv_c (.int _) pe_int) (fun _ _ => rfl))))) (ca_cons (pa_cons (cv_op op_ix_ok (pe_ix (ix_U (hu_of hr)) (cv_var (pv 3)) (cv_c (.int _) pe_int) (fun _ _ => rfl))) (ca_nil pa_nil))))))) (ca_nil pa_nil))))))) (nomark _)))
    (pss_one (cs_ret (ps_ret (cv_c (.bl _) pe_bl)))) cs_nil))
    (cs_seq (pss_cons (cs_if (ps_if (ct_op op_ne_ok (pt_cmpR (op_neU hr.units) (cv_call .nil (pe_call (ok_law_pair T) (hr.mono (by decide)) rfl (T_glo T 20) (k_law_pair T) (b_law_pair T) .nil pX (ca_cons (pa_cons (cv_frz (cv_meth .nil (pe_meth (cv_var (pv 0)) (T_cls T 14) (T_meth T 22) (ok_Share_times T) (hr.mono (by decide)) (b_Share_times T) .nil pX (ca_cons (pa_cons (cv_var (pv 4)) (ca_nil pa_nil))) (ht := (mtree (attrBase_of rfl) rfl rfl))))) (ca_nil pa_nil))))) (cv_call .nil (pe_call (ok_law_low T) (hr.mono (by decide)) rfl (T_glo T 8) (k_law_low T) (b_law_low T) .nil pX (ca_cons (pa_cons (cv_frz (cv_op op_mul_ok (pe_op op_mulU (cv_op op_ix_ok (pe_ix (ix_U (hu_of hr)) (cv_var (pv 2)) (cv_c (.int _) pe_int) (fun _ _ => rfl))) (cv_var (pv 4))))) (ca_cons (pa_cons (cv_op op_ix_ok (pe_ix (ix_U (hu_of hr)) (cv_var (pv 2)) (cv_c (.int _) pe_int) (fun _ _ => rfl))) (ca_nil pa_nil))))))) (nomark _)))
    (pss_one (cs_ret (ps_ret (cv_c (.bl _) pe_bl)))) cs_nil))
    (cs_seq (pss_cons (cs_set (by decide) (ps_set (i := 5) sc_law_both_right.nd rfl (by first | exact Or.inl rfl | exact Or.inr rfl) (cv_frz (cv_meth .nil (pe_meth (cv_var (pv 0)) (T_cls T 14) (T_meth T 24) (ok_Share_below T) (hr.mono (by decide)) (b_Share_below T) .nil pX (ca_cons (pa_cons (cv_var (pv 1)) (ca_nil pa_nil))) (ht := (mtree (attrBase_of rfl) rfl rfl)))))))
    (cs_seq (pss_cons (cs_if (ps_if (PW.pt (cw_or (pw_or (ct_not (pt_not (ct_trv (pt_trv (cv_cb (op_isi_ok (cls_ok T)) (pe_callB call_isiW (by rfl) (T_free T 10) (by decide +kernel) (ca_cons (pa_cons (cv_var (pv 5)) (ca_cons (pa_cons (cv_c (.ty _) (pe_bltn (v := .ty "bool") rfl (T_free T 11) (by decide +kernel) rfl)) (ca_nil pa_nil))))))))))) (pw_or1 (ct_op op_ne_ok (pt_cmpR (op_neU hr.units) (cv_var (pv 5)) (cv_op op_lt_ok (pe_cmpR op_ltU (cv_op op_mul_ok (pe_op op_mulU (cv_op op_ix_ok (pe_ix (ix_U (hu_of hr)) (cv_var (pv 2)) (cv_c (.int _) pe_int) (fun _ _ => rfl))) (cv_op op_ix_ok (pe_ix (ix_U (hu_of hr)) (cv_var (pv 3)) (cv_c (.int _) pe_int) (fun _ _ => rfl))))) (cv_op op_mul_ok (pe_op op_mulU (cv_op op_ix_ok (pe_ix (ix_U (hu_of hr)) (cv_var (pv 3)) (cv_c (.int _) pe_int) (fun _ _ => rfl))) (cv_op op_ix_ok (pe_ix (ix_U (hu_of hr)) (cv_var (pv 2)) (cv_c (.int _) pe_int) (fun _ _ => rfl))))) (nomark _))) (nomark _)))))))
    (pss_one (cs_ret (ps_ret (cv_c (.bl _) pe_bl)))) cs_nil))
    (cs_seq (pss_cons (cs_if (ps_if (PW.pt (cw_and (pw_and (ct_op op_ne_ok (pt_cmpR (op_neU hr.units) (cv_var (pv 4)) (cv_c (.int _) pe_int) (nomark _))) (pw_and1 (ct_op op_ne_ok (pt_cmpR (op_neU hr.units) (cv_call .nil (pe_call (ok_law_pair T) (hr.mono (by decide)) rfl (T_glo T 20) (k_law_pair T) (b_law_pair T) .nil pX (ca_cons (pa_cons (cv_frz (cv_meth .nil (pe_meth (cv_var (pv 0)) (T_cls T 14) (T_meth T 27) (ok_Share_over T) (hr.mono (by decide)) (b_Share_over T) .nil pX (ca_cons (pa_cons (cv_var (pv 4)) (ca_nil pa_nil))) (ht := (mtree (attrBase_of rfl) rfl rfl))))) (ca_nil pa_nil))))) (cv_call .nil (pe_call (ok_law_low T) (hr.mono (by decide)) rfl (T_glo T 8) (k_law_low T) (b_law_low T) .nil pX (ca_cons (pa_cons (cv_op op_ix_ok (pe_ix (ix_U (hu_of hr)) (cv_var (pv 2)) (cv_c (.int _) pe_int) (fun _ _ => rfl))) (ca_cons (pa_cons (cv_frz (cv_op op_mul_ok (pe_op op_mulU (cv_op op_ix_ok (pe_ix (ix_U (hu_of hr)) (cv_var (pv 2)) (cv_c (.int _) pe_int) (fun _ _ => rfl))) (cv_var (pv 4))))) (ca_nil pa_nil))))))) (nomark _)))))))
    (pss_one (cs_ret (ps_ret (cv_c (.bl _) pe_bl)))) cs_nil))
    (cs_seq (pss_cons (cs_set (by decide) (ps_set (i := 6) sc_law_both_right.nd rfl (by first | exact Or.inl rfl | exact Or.inr rfl) (cv_frz (cv_meth0 .nil (pe_meth0 (cv_var (pv 0)) (T_cls T 14) (T_meth T 28) (ok_Share_whole T) (hr.mono (by decide)) (b_Share_whole T) .nil pX (ht := (mtree (attrBase_of rfl) rfl rfl)))))))
    (cs_seq (pss_cons (cs_if (ps_if (PW.pt (cw_or (pw_or (ct_not (pt_not (ct_trv (pt_trv (cv_cb (op_isi_ok (cls_ok T)) (pe_callB call_isiW (by rfl) (T_free T 10) (by decide +kernel) (ca_cons (pa_cons (cv_var (pv 6)) (ca_cons (pa_cons (cv_c (.ty _) (pe_bltn (v := .ty "int") rfl (T_free T 9) (by decide +kernel) rfl)) (ca_nil pa_nil))))))))))) (pw_or1 (ct_trv (pt_trv (cv_cb (op_isi_ok (cls_ok T)) (pe_callB call_isiW (by rfl) (T_free T 10) (by decide +kernel) (ca_cons (pa_cons (cv_var (pv 6)) (ca_cons (pa_cons (cv_c (.ty _) (pe_bltn (v := .ty "bool") rfl (T_free T 11) (by decide +kernel) rfl)) (ca_nil pa_nil)))))))))))))
    (pss_one (cs_ret (ps_ret (cv_c (.bl _) pe_bl)))) cs_nil))
    (pss_one (cs_ret (ps_ret (cv_andT (pe_andT (cv_chain op2B_I op_lt_ok (pe_chain op_leU op_ltU (cv_op op_mul_ok (pe_op op_mulU (cv_var (pv 6)) (cv_op op_ix_ok (pe_ix (ix_U (hu_of hr)) (cv_var (pv 2)) (cv_c (.int _) pe_int) (fun _ _ => rfl))))) (cv_op op_ix_ok (pe_ix (ix_U (hu_of hr)) (cv_var (pv 2)) (cv_c (.int _) pe_int) (fun _ _ => rfl))) (cv_op op_mul_ok (pe_op op_mulU (cv_op op_add_ok (pe_op op_addU (cv_var (pv 6)) (cv_c (.int _) pe_int))) (cv_op op_ix_ok (pe_ix (ix_U (hu_of hr)) (cv_var (pv 2)) (cv_c (.int _) pe_int) (fun _ _ => rfl))))))) (pe_one (cv_op op_eq_ok (pe_cmpR (op_eqU hr.units) (cv_call .nil (pe_call (ok_law_over_nought T) (hr.mono (by decide)) rfl (T_glo T 29) (k_law_over_nought T) (b_law_over_nought T) .nil pX (ca_cons (pa_cons (cv_var (pv 0)) (ca_nil pa_nil))))) (cv_op op_ix_ok (pe_ix (ix_U (hu_of hr)) (cv_var (pv 2)) (cv_c (.int _) pe_int) (fun _ _ => rfl))) (nomark _)))))))))))))))))))))))))), body_ok rfl h⟩
theorem ok_law (T : Txt K mg) : FnOk P w K mg base (L2.CX P w) 7 (He.fAd K ("law", none)) (fdA K ("law", none)) ["_law_script"] (spM K m_law) :=
  FunD.ok (F_law T) sc_law (fun _ _ _ _ h => len_body h) fun cdv A outer s H vs Q E hr h => ⟨RS K (fun _ => E) [0] c_law, (by unfold c_law; exact (cs_seq (pss_cons (cs_set (by decide) (ps_set (i := 1) sc_law.nd rfl (by first | exact Or.inl rfl | exact Or.inr rfl) (cv_call .nil (pe_call (ok_law_held T) (hr.mono (by decide)) rfl (T_glo T 1) (k_law_held T) (b_law_held T) .nil pX (ca_cons (pa_cons (cv_var (pv 0)) (ca_nil pa_nil)))))))
    (cs_seq (pss_cons (cs_for (on_N 2) (ps_for (passes_of rfl) rfl (ci_rng1 (pi_range1 rfl (T_free T 2) (ca_cons (pa_cons (cv_c (.int _) pe_int) (ca_nil pa_nil))))) (cg_name (by decide) (pg_name (i := 2) sc_law.nd rfl (by first | exact Or.inl rfl | exact Or.inr rfl)))
    (cs_seq (pss_cons (cs_set (by decide) (ps_set (i := 3) sc_law.nd rfl (by first | exact Or.inl rfl | exact Or.inr rfl) (cv_frz (cv_call .nil (pe_call (ok_law_low T) (hr.mono (by decide)) rfl (T_glo T 8) (k_law_low T) (b_law_low T) .nil pX (ca_cons (pa_cons (cv_frz (cv_call .nil (pe_call (ok_law_number T) (hr.mono (by decide)) rfl (T_glo T 7) (k_law_number T) (b_law_number T) .nil pX (ca_cons (pa_cons (cv_var (pv 1)) (ca_nil pa_nil)))))) (ca_cons (pa_cons (cv_frz (cv_orT (pe_orT (cv_call .nil (pe_call (ok_law_number T) (hr.mono (by decide)) rfl (T_glo T 7) (k_law_number T) (b_law_number T) .nil pX (ca_cons (pa_cons (cv_var (pv 1)) (ca_nil pa_nil))))) (pe_one (cv_c (.int _) pe_int))))) (ca_nil pa_nil))))))))))
    (cs_seq (pss_cons (cs_set (by decide) (ps_set (i := 4) sc_law.nd rfl (by first | exact Or.inl rfl | exact Or.inr rfl) (cv_frz (cv_call .nil (pe_call (ok_law_low T) (hr.mono (by decide)) rfl (T_glo T 8) (k_law_low T) (b_law_low T) .nil pX (ca_cons (pa_cons (cv_frz (cv_call .nil (pe_call (ok_law_number T) (hr.mono (by decide)) rfl (T_glo T 7) (k_law_number T) (b_law_number T) .nil pX (ca_cons (pa_cons (cv_var (pv 1)) (ca_nil pa_nil)))))) (ca_cons (pa_cons (cv_frz (cv_orT (pe_orT (cv_call .nil (pe_call (ok_law_number T) (hr.mono (by decide)) rfl (T_glo T 7) (k_law_number T) (b_law_number T) .nil pX (ca_cons (pa_cons (cv_var (pv 1)) (ca_nil pa_nil))))) (pe_one (cv_c (.int _) pe_int))))) (ca_nil pa_nil))))))))))
    (cs_seq (pss_cons (cs_if (ps_if (ct_op op_eq_ok (pt_cmpR (op_eqU hr.units) (cv_call .nil (pe_call (ok_law_draw T) (hr.mono (by decide)) rfl (T_glo T 5) (k_law_draw T) (b_law_draw T) .nil pX (ca_cons (pa_cons (cv_var (pv 1)) (ca_cons (pa_cons (cv_c (.int _) pe_int) (ca_nil pa_nil))))))) (cv_c (.int _) pe_int) (nomark _)))
    (pss_one (cs_set (by decide) (ps_set (i := 4) sc_law.nd rfl (by first | exact Or.inl rfl | exact Or.inr rfl) (cv_if (pe_ifExp (ct_op op_eq_ok (pt_cmpR (op_eqU hr.units) (cv_op op_ix_ok (pe_ix (ix_U (hu_of hr)) (cv_call .nil (pe_call (ok_law_low T) (hr.mono (by decide)) rfl (T_glo T 8) (k_law_low T) (b_law_low T) .nil pX (ca_cons (pa_cons (cv_op op_ix_ok (pe_ix (ix_U (hu_of hr)) (cv_var (pv 4)) (cv_c (.int _) pe_int) (fun _ _ => rfl))) (ca_cons (pa_cons (cv_op op_ix_ok (pe_ix (ix_U (hu_of hr)) (cv_var (pv 3)) (cv_c (.int _) pe_int) (fun _ _ => rfl))) (ca_nil pa_nil))))))) (cv_c (.int _) pe_int) (fun _ _ => rfl))) (cv_op op_ix_ok (pe_ix (ix_U (hu_of hr)) (cv_var (pv 3)) (cv_c (.int _) pe_int) (fun _ _ => rfl))) (nomark _))) (cv_tup (pe_tup (ca_cons (pa_cons (cv_op op_ix_ok (pe_ix (ix_U (hu_of hr)) (cv_var (pv 4)) (cv_c (.int _) pe_int) (fun _ _ => rfl))) (ca_cons (pa_cons (cv_op op_ix_ok (pe_ix (ix_U (hu_of hr)) (cv_var (pv 3)) (cv_c (.int _) pe_int) (fun _ _ => rfl))) (ca_nil pa_nil))))))) (cv_var (pv 3))))))) cs_nil))
    (cs_seq (pss_cons (cs_if (ps_if (ct_op op_eq_ok (pt_cmpR (op_eqU hr.units) (cv_call .nil (pe_call (ok_law_draw T) (hr.mono (by decide)) rfl (T_glo T 5) (k_law_draw T) (b_law_draw T) .nil pX (ca_cons (pa_cons (cv_var (pv 1)) (ca_cons (pa_cons (cv_c (.int _) pe_int) (ca_nil pa_nil))))))) (cv_c (.int _) pe_int) (nomark _)))
    (cs_seq (pss_cons (cs_set (by decide) (ps_set (i := 5) sc_law.nd rfl (by first | exact Or.inl rfl | exact Or.inr rfl) (cv_frz (cv_op op_add_ok (pe_op op_addU (cv_op op_pow_ok (pe_op op_powU (cv_c (.int _) pe_int) (cv_c (.int _) pe_int))) (cv_call .nil (pe_call (ok_law_draw T) (hr.mono (by decide)) rfl (T_glo T 5) (k_law_draw T) (b_law_draw T) .nil pX (ca_cons (pa_cons (cv_var (pv 1)) (ca_cons (pa_cons (cv_op op_pow_ok (pe_op op_powU (cv_c (.int _) pe_int) (cv_c (.int _) pe_int))) (ca_nil pa_nil))))))))))))
    (pss_one (cs_par (by decide) (by decide) (ps_par (i := 3) (j := 4) rfl sc_law.nd rfl rfl (by decide) rfl rfl (ca_cons (pa_cons (cv_tup (pe_tup (ca_cons (pa_cons (cv_op op_sub_ok (pe_op op_subU (cv_var (pv 5)) (cv_c (.int _) pe_int))) (ca_cons (pa_cons (cv_var (pv 5)) (ca_nil pa_nil))))))) (ca_cons (pa_cons (cv_tup (pe_tup (ca_cons (pa_cons (cv_var (pv 5)) (ca_cons (pa_cons (cv_op op_add_ok (pe_op op_addU (cv_var (pv 5)) (cv_c (.int _) pe_int))) (ca_nil pa_nil))))))) (ca_nil pa_nil))))) (by rfl)))))) cs_nil))
    (cs_seq (pss_cons (cs_set (by decide) (ps_set (i := 6) sc_law.nd rfl (by first | exact Or.inl rfl | exact Or.inr rfl) (cv_frz (cv_call .nil (pe_call (ok_law_number T) (hr.mono (by decide)) rfl (T_glo T 7) (k_law_number T) (b_law_number T) .nil pX (ca_cons (pa_cons (cv_var (pv 1)) (ca_nil pa_nil))))))))
    (cs_seq (pss_cons (cs_par (by decide) (by decide) (ps_par (i := 7) (j := 8) rfl sc_law.nd rfl rfl (by decide) rfl rfl (ca_cons (pa_cons (cv_frz (cv_make (by intro z; cases z) .nil (pe_make (T_mkr T 18) (ok_Share_init T) (hr.mono (by decide)) rfl (T_glo T 16) (b_Share_init_3 T).choose_spec.2 (b_Share_init_3 T).choose_spec.1 pX (ca_cons (pa_cons (cv_op op_ix_ok (pe_ix (ix_U (hu_of hr)) (cv_var (pv 3)) (cv_c (.int _) pe_int) (fun _ _ => rfl))) (ca_cons (pa_cons (cv_op op_ix_ok (pe_ix (ix_U (hu_of hr)) (cv_var (pv 3)) (cv_c (.int _) pe_int) (fun _ _ => rfl))) (ca_nil pa_nil)))))))) (ca_cons (pa_cons (cv_frz (cv_make (by intro z; cases z) .nil (pe_make (T_mkr T 18) (ok_Share_init T) (hr.mono (by decide)) rfl (T_glo T 16) (b_Share_init_3 T).choose_spec.2 (b_Share_init_3 T).choose_spec.1 pX (ca_cons (pa_cons (cv_op op_ix_ok (pe_ix (ix_U (hu_of hr)) (cv_var (pv 4)) (cv_c (.int _) pe_int) (fun _ _ => rfl))) (ca_cons (pa_cons (cv_op op_ix_ok (pe_ix (ix_U (hu_of hr)) (cv_var (pv 4)) (cv_c (.int _) pe_int) (fun _ _ => rfl))) (ca_nil pa_nil)))))))) (ca_nil pa_nil))))) (by rfl)))
    (cs_seq (pss_cons (cs_for (on_T1 (on_cons (on_N 9) (on_cons (on_N 10) (on_cons (on_N 11) (on_cons (on_N 12) on_nil))))) (ps_for (passes_of rfl) rfl (ci_seq (pi_seq (cv_lst (pe_lst (ca_cons (pa_cons (cv_tup (pe_tup (ca_cons (pa_cons (cv_var (pv 7)) (ca_cons (pa_cons (cv_var (pv 8)) (ca_cons (pa_cons (cv_var (pv 3)) (ca_cons (pa_cons (cv_var (pv 4)) (ca_nil pa_nil))))))))))) (ca_cons (pa_cons (cv_tup (pe_tup (ca_cons (pa_cons (cv_var (pv 8)) (ca_cons (pa_cons (cv_var (pv 7)) (ca_cons (pa_cons (cv_var (pv 4)) (ca_cons (pa_cons (cv_var (pv 3)) (ca_nil pa_nil))))))))))) (ca_cons (pa_cons (cv_tup (pe_tup (ca_cons (pa_cons (cv_var (pv 7)) (ca_cons (pa_cons (cv_var (pv 7)) (ca_cons (pa_cons (cv_var (pv 3)) (ca_cons (pa_cons (cv_var (pv 3)) (ca_nil pa_nil))))))))))) (ca_nil pa_nil))))))))))) (cg_tup (pg_tup rfl (cgs_cons (pgs_cons (cg_name (by decide) (pg_name (i := 9) sc_law.nd rfl (by first | exact Or.inl rfl | exact Or.inr rfl))) (cgs_cons (pgs_cons (cg_name (by decide) (pg_name (i := 10) sc_law.nd rfl (by first | exact Or.inl rfl | exact Or.inr rfl))) (cgs_cons (pgs_cons (cg_name (by decide) (pg_name (i := 11) sc_law.nd rfl (by first | exact Or.inl rfl | exact Or.inr rfl))) (cgs_cons (pgs_cons (cg_name (by decide) (pg_name (i := 12) sc_law.nd rfl (by first | exact Or.inl rfl | exact Or.inr rfl))) (cgs_nil pgs_nil)))))))))))
    (pss_one (cs_if (ps_if (ct_not (pt_not (ct_trv (pt_trv (cv_call .nil (pe_call (ok_law_both_right T) (hr.mono (by decide)) rfl (T_glo T 30) (k_law_both_right T) (b_law_both_right T) .nil pX (ca_cons (pa_cons (cv_var (pv 9)) (ca_cons (pa_cons (cv_var (pv 10)) (ca_cons (pa_cons (cv_var (pv 11)) (ca_cons (pa_cons (cv_var (pv 12)) (ca_cons (pa_cons (cv_var (pv 6)) (ca_nil pa_nil)))))))))))))))))
    (pss_one (cs_ret (ps_ret (cv_c (.bl _) pe_bl)))) cs_nil)))))
    (pss_one (cs_if (ps_if (PW.pt (cw_or (pw_or (ct_op op_ne_ok (pt_cmpR (op_neU hr.units) (cv_call .nil (pe_call (ok_law_pair T) (hr.mono (by decide)) rfl (T_glo T 20) (k_law_pair T) (b_law_pair T) .nil pX (ca_cons (pa_cons (cv_var (pv 7)) (ca_nil pa_nil))))) (cv_var (pv 3)) (nomark _))) (pw_or1 (ct_op op_ne_ok (pt_cmpR (op_neU hr.units) (cv_call .nil (pe_call (ok_law_pair T) (hr.mono (by decide)) rfl (T_glo T 20) (k_law_pair T) (b_law_pair T) .nil pX (ca_cons (pa_cons (cv_var (pv 8)) (ca_nil pa_nil))))) (cv_var (pv 4)) (nomark _)))))))
    (pss_one (cs_ret (ps_ret (cv_c (.bl _) pe_bl)))) cs_nil)))))))))))))))))))
    (pss_one (cs_ret (ps_ret (cv_c (.bl _) pe_bl))))))))), body_ok rfl h⟩
end
end Lw

namespace Lw
open PySem PySem.Spec PyProof.Rows L2 Rt Mi
def loose0 : List Str := ["NoKind", "Nought", "is_whole", "divisor", "Share", "_law_held", "_law_draw", "_law_great", "_law_low", "_law_add", "_law_pair", "_law_number", "_law_over_nought", "_law_both_right"]
def loose : List Str := loose0
abbrev R : PySem.W.OpenRow := PySem.W.OpenLaw.row PySem.Challenge.rw_rideturns_k02_sums_of_shares
abbrev hk : PySem.W.Hook := He.hookX 5 fa fn [] [] ex
def ob (s : PySem.W.SharedT) : He.AlX := He.obsX 5 fa fn [] [] ex (HandSHeadRun.getT s)
theorem ob_eq (s : PySem.W.SharedT) : ob s = hk.obs s.abs := He.obsX_eq (HandSHeadRun.getT_eq s)
set_option maxHeartbeats 0 in
theorem run (w : World) : HandSHeadRun.RunEq R (PySem.W.view R.prog [17]) hk ob 20000 loose w := by
  intro os
  kernel_rfl
theorem bind_law {K : PySem.W.Frag} {mg : Str → Option Value} (T : Txt K mg) (s : Shared) (v : Value) : BindsTo s (fdA K ("law", none)) ⟨[v], []⟩ [("_law_script", v)] :=
  FunD.bindsA (ps := ["_law_script"]) (F_law T) (fun _ _ _ _ _ _ us hl => match us, hl with | [_], _ => rfl) s [v] rfl
end Lw
open PySem PySem.W PySem.Calls PyProof.Rows in
set_option maxRecDepth 100000 in
set_option maxHeartbeats 0 in
theorem PySem.Challenge.cw_rideturns_k02_sums_of_shares_holds : PySem.Challenge.rw_rideturns_k02_sums_of_shares.Holds := by
  w_on; o_law
  refine HandSHeadRun.head_any (r := Lw.R) (q := PySem.W.view Lw.R.prog [17]) (H := Lw.hk) (ob := Lw.ob) (M := 20000) (loose := Lw.loose) (d := HandSHeadRun.topDef Lw.R.prog 17) (kwd := []) Lw.ob_eq
    (by kernel_rfl) (fun s => by kernel_rfl) Lw.run (by kernel_rfl) (by kernel_rfl) (by kernel_rfl) (by rfl) (by first | assumption | decide +kernel) (by decide +kernel) ⟨rfl, rfl, rfl, rfl, rfl, by decide +kernel⟩ ?hw ?hc
  case hw => w_witness2
  case hc =>
    refine L2.walk_ofE (l := PySem.Challenge.rw_rideturns_k02_sums_of_shares) (n := 63) (k := 7) (x := "_law_script") (CX := fun o H s E u s' => ∃ w, L2.CX (PySem.Challenge.rw_rideturns_k02_sums_of_shares).prog w o H s E u s') rfl (by decide) (by kernel_rfl) ⟨rfl, by decide, by decide⟩ ?F Rt.end_cx
    intro w mg fa h Y G hmg0
    obtain ⟨K, KX, c⟩ := Y
    have T : Lw.Txt K mg := ⟨h, w, KX, G, c⟩
    have hmg : mg ("law" : PySem.Str) = some (.ref fa) := by
      have e : (HandSHeadRun.topDef Lw.R.prog 17).name = ("law" : PySem.Str) := by kernel_rfl
      rw [← e]
      exact hmg0
    have e := hmg.symm.trans (Lw.T_glo T 31)
    cases e
    exact ⟨K, _, Mi.spM K Lw.m_law, KX, Lw.bind_law T, fun H a ns hl ho hS => Mi.law_sp ho hS (Lw.holds ns hl), fun base hb hg => Rt.FnOk.cx (fun o H s E u s' h => ⟨w, h⟩) (Lw.ok_law T)⟩
