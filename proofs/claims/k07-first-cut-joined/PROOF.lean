import PyProof.Rows.All
import Wide.All
import OpenK.AllK
import Wide.FinOn
import HandS.ForMost
import HandS.ForExc
import HandS.TupAny
import HandS.IsInst
import HandS.Conv
import HandS.Defaults
import HandS.WideBits
import HandS.SortInts
import HandS.Slots
import HandS.Flow
import HandS.SlotsOwn
import HandS.Exc
import HandS.ExcOwn
import HandS.CallSlots
import HandS.ExcInit
import HandS.ExcIs
import KE.KExcIs
import KE.KExcSuper
import HandS.Head0
import HandS.Head1
import HandS.Head2
import HandS.HeadEnd
import HandS.HeadHook1
import HandS.HeadHook2
import KE.GoesEnum
import HandS.ExcField
import HandS.WideBits
import PyProof.StrReplace2
import KE.KOpsOwn
import HandS.Iter
import HandS.OwnEq
import HandS.Defaults
import HandS.MakeKwOnly
import HandS.TryOnly
import KE.SortCalls
import HandS.GenList
import HandS.Zip
import HandS.Strs
import HandS.TupSets
import PyProof.Rows.SetFrom
import PyProof.AutoSeq1
import PySem.Challenge.RW_slicedcolumns_k07_first_cut_joined
set_option Elab.async false
set_option linter.all false
set_option maxRecDepth 100000
set_option maxHeartbeats 4000000
namespace S
open PySem PySem.Spec PyProof.Rows L2
abbrev Frag := PySem.W.Frag
/-! ## readings that reduce -/
theorem PE.of {X : Cx} {e : Expr} {t t' : TE} (h : PE X e t) (i : ∀ σ H Q, t' σ H Q → t σ H Q) : PE X e t' := ⟨fun pins s σ H Q I q => h.run pins s σ H Q I (i σ H Q q)⟩
theorem PT.of {X : Cx} {e : Expr} {t t' : TT} (h : PT X e t) (i : ∀ σ H Q, t' σ H Q → t σ H Q) : PT X e t' := ⟨fun pins s σ H Q I q => h.run pins s σ H Q I (i σ H Q q)⟩
theorem PS.of {X : Cx} {e : Stmt} {t t' : TS} (h : PS X e t) (i : ∀ D σ H, t' D σ H → t D σ H) : PS X e t' := ⟨fun pins s σ H Q I q => h.run pins s σ H Q I (i Q σ H q)⟩
theorem OpR.of {X : Cx} {f : Value → Value → Sem Value} {r r' : R2} (h : OpR X f r) (i : ∀ x y H Q, r' x y H Q → r x y H Q) : OpR X f r' := fun pins s σ H x y v u Q I rx ry q => h pins s σ H x y v u Q I rx ry (i x y H Q q)
theorem IxR.of {X : Cx} {r r' : R2} (h : IxR X r) (i : ∀ x y H Q, r' x y H Q → r x y H Q) : IxR X r' := fun e1 e2 pins s σ H x y v u Q I rx ry q hs => h e1 e2 pins s σ H x y v u Q I rx ry (i x y H Q q) hs
theorem CallR.of {X : Cx} {f : Value} {r r' : List V → Hp → VK → Prop} (h : CallR X f r) (i : ∀ xs H Q, r' xs H Q → r xs H Q) : CallR X f r' := fun pins s σ H xs us Q I rx q => h pins s σ H xs us Q I rx (i xs H Q q)
def nth : L2.St → Nat → Option V
  | [], _ => none
  | x :: _, 0 => x
  | _ :: r, n + 1 => nth r n
theorem nth_ok : ∀ {σ : L2.St} {i : Nat} {v : V}, nth σ i = some v → σ[i]? = some (some v)
  | [], _, _, h => nomatch h
  | x :: _, 0, _, h => by
    have e : x = some _ := h
    rw [e]; rfl
  | _ :: r, n + 1, _, h => by
    have := nth_ok (σ := r) (i := n) h
    simpa using this
def SqA (K : Frag) (H : Hp) (p : Addr) (xs : List V) : Prop := SqL K H p xs ∨ SqT K H p xs
/-! ### points at which a reading waits for an answer -/
/-- a condition, then on -/
structure Need (c q : Prop) : Prop where
  c : c
  q : q
/-- the sequence at p is read -/
structure Rd (K : Frag) (H : Hp) (p : Addr) (k : List V → Prop) : Prop where
  ex : ∃ xs, SqA K H p xs ∧ k xs
theorem Rd.l {K : Frag} {H : Hp} {p : Addr} {k : List V → Prop} {xs : List V} (h : H p = some (.lst xs)) (q : k xs) : Rd K H p k := ⟨xs, .inl (SqL.of h), q⟩
theorem Rd.t {K : Frag} {H : Hp} {p : Addr} {k : List V → Prop} {xs : List V} (h : H p = some (.tup xs)) (q : k xs) : Rd K H p k := ⟨xs, .inr (SqT.of h), q⟩
theorem Rd.sl {K : Frag} {H : Hp} {p : Addr} {k : List V → Prop} {xs : List V} (h : SqL K H p xs) (q : k xs) : Rd K H p k := ⟨xs, .inl h, q⟩
theorem Rd.st {K : Frag} {H : Hp} {p : Addr} {k : List V → Prop} {xs : List V} (h : SqT K H p xs) (q : k xs) : Rd K H p k := ⟨xs, .inr h, q⟩
theorem Rd.sa {K : Frag} {H : Hp} {p : Addr} {k : List V → Prop} {xs : List V} (h : SqA K H p xs) (q : k xs) : Rd K H p k := ⟨xs, h, q⟩
/-- the item at i -/
structure At (xs : List V) (i : Int) (k : V → Prop) : Prop where
  ex : ∃ v, atI xs i = some v ∧ k v
theorem At.of {xs : List V} {i : Int} {k : V → Prop} {v : V} (h : atI xs i = some v) (q : k v) : At xs i k := ⟨v, h, q⟩
/-- the list at p is to be changed -/
structure Ls (H : Hp) (p : Addr) (k : List V → Prop) : Prop where
  ex : ∃ xs, H p = some (.lst xs) ∧ k xs
theorem Ls.of {H : Hp} {p : Addr} {k : List V → Prop} {xs : List V} (h : H p = some (.lst xs)) (q : k xs) : Ls H p k := ⟨xs, h, q⟩
/-- a new list; a new tuple, or one that stands -/
structure NewL (H : Hp) (ys : List V) (Q : V → Hp → Prop) : Prop where
  go : ∀ p, H p = none → Q (.ref p) (upd H p (.lst ys))
structure NewT (K : Frag) (H : Hp) (ys : List V) (Q : V → Hp → Prop) : Prop where
  go : ∀ p H', Same H H' → SqT K H' p ys → Q (.ref p) H'
def onSome (o : Option V) (k : V → Prop) : Prop := match o with
  | some v => k v
  | none => False
def dVar (i : Nat) : TE := fun σ H Q => onSome (nth σ i) fun v => Q v H
theorem pv {X : Cx} (i : Nat) {x : Str} {pos : Pos} (hN : X.N[i]? = some x := by rfl) (hv : Vis X.env.scope x := by first | exact Or.inl rfl | exact Or.inr (Or.inl rfl) | exact Or.inr (Or.inr rfl)) (hd : (x == ("__debug__" : Str)) = false := by decide)
    (hcd : (x == ("__classdict__" : Str)) = false := by decide) : PE X (.Name x pos) (dVar i) := PE.of (pe_var hN hv hd hcd) fun σ H Q q => by
  unfold dVar onSome at q
  cases e : nth σ i with
  | none => rw [e] at q; exact q.elim
  | some v => rw [e] at q; exact ⟨v, nth_ok e, q⟩
/-- two ways by a bool -/
def bIf (b : Bool) (A B : Prop) : Prop := match b with
  | true => A
  | false => B
theorem bIf_of {b : Bool} {A B : Prop} (h : bIf b A B) : if b = true then A else B := by
  cases b with
  | true => exact iteT h
  | false => exact iteF h
theorem ifb {b : Bool} {A B : Prop} (h1 : b = true → A) (h2 : b = false → B) : bIf b A B := by
  cases b with
  | true => exact h1 rfl
  | false => exact h2 rfl
theorem ifd {c : Prop} [Decidable c] {A B : Prop} (h1 : c → A) (h2 : ¬ c → B) : bIf (decide c) A B := ifb (fun h => h1 (of_decide_eq_true h)) fun h => h2 (of_decide_eq_false h)
theorem ifn {c : Prop} [Decidable c] {A B : Prop} (h1 : ¬ c → A) (h2 : c → B) : bIf (!decide c) A B := ifb (fun h => h1 (by simpa using h)) fun h => h2 (by simpa using h)
theorem ift {c : Prop} [Decidable c] {A B : Prop} (hc : c) (h1 : A) : bIf (decide c) A B := by rw [decide_eq_true hc]; exact h1
theorem iff' {c : Prop} [Decidable c] {A B : Prop} (hc : ¬ c) (h1 : B) : bIf (decide c) A B := by rw [decide_eq_false hc]; exact h1
theorem ifnt {c : Prop} [Decidable c] {A B : Prop} (hc : ¬ c) (h1 : A) : bIf (!decide c) A B := by rw [decide_eq_false hc]; exact h1
theorem ifnf {c : Prop} [Decidable c] {A B : Prop} (hc : c) (h1 : B) : bIf (!decide c) A B := by rw [decide_eq_true hc]; exact h1
/-! ### tests -/
def dTru (K : Frag) (x : V) (H : Hp) (Q : Bool → Prop) : Prop := match x with
  | .bl b => Q b
  | .non => Q false
  | .int i => Q (decide (i ≠ 0))
  | .str z => Need (z.length ≤ sizeLine) (Q (decide (z.length ≠ 0)))
  | .ref p => Rd K H p fun xs => Q (decide (xs ≠ []))
  | _ => False
def dTest (K : Frag) (ta : TE) : TT := fun σ H Q => ta σ H fun x H1 => dTru K x H1 fun b => Q b H1
theorem pt_of {X : Cx} {a : Expr} {ta : TE} (ha : PE X a ta) (he : ∀ whole, isTrue a X.env whole = (do let v ← whole; standAt a.pos; holding [v] (truthy v)) := by intro _; rfl) : PT X a (dTest X.K ta) := by
  refine ⟨fun pins s σ H Q I h => ?_⟩
  refine isTrue_plain (thn (ha.run pins s σ H _ I h) fun v s1 ⟨x, H1, I1, r1, q1⟩ => ?_) (he _)
  cases x with
  | bl b =>
    exact tru_ok pins s1 σ H1 (.bl b) v Q I1 r1 ⟨b, rfl, q1⟩
  | non =>
    exact tru_ok pins s1 σ H1 .non v Q I1 r1 ⟨false, rfl, q1⟩
  | int i =>
    refine tru_ok pins s1 σ H1 (.int i) v Q I1 r1 ⟨_, rfl, ?_⟩
    have e : (i != 0) = decide (i ≠ 0) := by by_cases h : i = 0 <;> simp [h]
    rw [e]; exact q1
  | str z =>
    refine tru_ok pins s1 σ H1 (.str z) v Q I1 r1 ⟨_, ⟨q1.c, rfl⟩, ?_⟩
    have e : ((z.length : Int) != 0) = decide (z.length ≠ 0) := by by_cases h : z.length = 0 <;> simp [h]
    rw [e]; exact q1.q
  | ref p =>
    obtain ⟨⟨xs, hx, q⟩⟩ := q1
    have e : (!xs.isEmpty) = decide (xs ≠ []) := by cases xs <;> simp
    rcases hx with hx | hx
    · refine tru_ok pins s1 σ H1 (.ref p) v Q I1 r1 ⟨_, .inl ⟨xs, hx, rfl⟩, ?_⟩
      rw [e]; exact q
    · refine tru_ok pins s1 σ H1 (.ref p) v Q I1 r1 ⟨_, .inr (.inl ⟨xs, hx, rfl⟩), ?_⟩
      rw [e]; exact q
  | _ => exact q1.elim
def dAnd (t u : TT) : TT := fun σ H Q => t σ H fun c H1 => bIf c (u σ H1 Q) (Q false H1)
def dOr (t u : TT) : TT := fun σ H Q => t σ H fun c H1 => bIf c (Q true H1) (u σ H1 Q)
def dNot (t : TT) : TT := fun σ H Q => t σ H fun c H1 => Q (!c) H1
def dIfE (t : TT) (ta tb : TE) : TE := fun σ H Q => t σ H fun c H1 => bIf c (ta σ H1 Q) (tb σ H1 Q)
def dIfS (c : TT) (t u : TS) : TS := fun D σ H => c σ H fun b H1 => bIf b (t D σ H1) (u D σ H1)

/-! ### operators by the values -/
def int2 (k : Int → Int → Prop) (x y : V) : Prop := match x, y with
  | .int i, .int j => k i j
  | _, _ => False
/-- two lists, two tuples one behind the other -/
structure Cat (K : Frag) (H : Hp) (a b : Addr) (Q : V → Hp → Prop) : Prop where
  ex : (∃ xs zs, H a = some (.lst xs) ∧ H b = some (.lst zs) ∧ xs.length + zs.length ≤ sizeLine ∧ ∀ p, H p = none → Q (.ref p) (upd H p (.lst (xs ++ zs)))) ∨
     (∃ xs ys, SqT K H a xs ∧ SqT K H b ys ∧ xs.length + ys.length ≤ sizeLine ∧ ∀ p H', Same H H' → SqT K H' p (xs ++ ys) → Q (.ref p) H')
theorem Cat.l {K : Frag} {H : Hp} {a b : Addr} {Q : V → Hp → Prop} {xs zs : List V} (h : H a = some (.lst xs)) (h2 : H b = some (.lst zs)) (hz : xs.length + zs.length ≤ sizeLine) (q : ∀ p, H p = none → Q (.ref p) (upd H p (.lst (xs ++ zs)))) : Cat K H a b Q := ⟨.inl ⟨xs, zs, h, h2, hz, q⟩⟩
theorem Cat.t {K : Frag} {H : Hp} {a b : Addr} {Q : V → Hp → Prop} {xs ys : List V} (h : SqT K H a xs) (h2 : SqT K H b ys) (hz : xs.length + ys.length ≤ sizeLine) (q : ∀ p H', Same H H' → SqT K H' p (xs ++ ys) → Q (.ref p) H') : Cat K H a b Q := ⟨.inr ⟨xs, ys, h, h2, hz, q⟩⟩
def oAdd (K : Frag) : R2 := fun x y H Q => match x, y with
  | .int i, .int j => Q (.int (i + j)) H
  | .str a, .str b => Need (a.length + b.length ≤ sizeLine) (Q (.str (a ++ b)) H)
  | .ref a, .ref b => Cat K H a b Q
  | _, _ => False
theorem same_new {H : Hp} {p : Addr} {o : HO} (h : H p = none) : Same H (upd H p o) := fun b u e => by rw [upd_ne (ne_of_none e h)]; exact e
theorem o_add {X : Cx} : OpR X (binaryOp .Add) (oAdd X.K) := OpR.of (op_add.or (op_add_str.or (op_cat.or op_catA))) fun x y H Q q => by
  cases x <;> cases y <;> try exact q.elim
  · exact .inl ⟨_, _, rfl, rfl, q⟩
  · exact .inr (.inl ⟨_, _, rfl, rfl, q.c, q.q⟩)
  · rcases q.ex with ⟨xs, zs, h1, h2, h3, q⟩ | ⟨xs, ys, h1, h2, h3, q⟩
    · exact .inr (.inr (.inl ⟨_, _, xs, zs, rfl, rfl, h1, h2, h3, q⟩))
    · refine .inr (.inr (.inr ⟨_, _, xs, ys, rfl, rfl, h1, h2, h3, fun e => ?_, fun _ e => ?_, fun _ _ p hp => ?_⟩))
      · subst e; exact q _ _ (Same.refl _) h2
      · subst e; exact q _ _ (Same.refl _) (by rw [List.append_nil]; exact h1)
      · exact q _ _ (same_new hp) (SqT.of upd_same)
def oI (C : Int → Int → Prop) (g : Int → Int → Int) : R2 := fun x y H Q => int2 (fun i j => Need (C i j) (Q (.int (g i j)) H)) x y
def oI0 (g : Int → Int → Int) : R2 := fun x y H Q => int2 (fun i j => Q (.int (g i j)) H) x y
theorem oI_of {X : Cx} {f : Value → Value → Sem Value} {C : Int → Int → Prop} {g : Int → Int → Int} (h : OpR X f (rI C fun i j => .int (g i j))) : OpR X f (oI C g) := OpR.of h fun x y H Q q => by
  cases x <;> cases y <;> try exact q.elim
  exact ⟨_, _, rfl, rfl, q.c, q.q⟩
theorem oI0_of {X : Cx} {f : Value → Value → Sem Value} {g : Int → Int → Int} (h : OpR X f (rI0 fun i j => .int (g i j))) : OpR X f (oI0 g) := OpR.of h fun x y H Q q => by
  cases x <;> cases y <;> try exact q.elim
  exact ⟨_, _, rfl, rfl, q⟩
def oSub : R2 := oI0 fun i j => i - j
theorem o_sub {X : Cx} : OpR X (binaryOp .Sub) oSub := oI0_of op_sub
def oMul : R2 := oI CMul fun i j => i * j
theorem o_mul {X : Cx} : OpR X (binaryOp .Mult) oMul := oI_of op_mul
def oFdiv : R2 := oI CDiv fun i j => i / j
theorem o_fdiv {X : Cx} : OpR X (binaryOp .FloorDiv) oFdiv := oI_of op_fdiv
def oMod : R2 := oI (fun _ j => 0 < j) fun i j => i % j
theorem o_mod {X : Cx} : OpR X (binaryOp .Mod) oMod := oI_of op_mod
def oPow : R2 := oI CPow fun i j => i ^ j.toNat
theorem o_pow {X : Cx} : OpR X (binaryOp .Pow) oPow := oI_of op_pow
def oAnd : R2 := oI0 fun i j => Builtin.bitAnd i j
theorem o_and {X : Cx} : OpR X (binaryOp .BitAnd) oAnd := oI0_of op_and
def oShl : R2 := oI CPow fun i j => i * 2 ^ j.toNat
theorem o_shl {X : Cx} : OpR X (binaryOp .LShift) oShl := oI_of op_shl
def oShr : R2 := oI (fun _ j => 0 ≤ j) fun i j => i / 2 ^ j.toNat
theorem o_shr {X : Cx} : OpR X (binaryOp .RShift) oShr := oI_of op_shr
def uNeg : V → Hp → VK → Prop := fun x H Q => match x with
  | .int i => Q (.int (-i)) H
  | _ => False
theorem u_neg {X : Cx} : UnR X (unaryOp .USub) uNeg := fun pins s σ H x v Q I rx q => by
  cases x <;> try exact q.elim
  exact un_neg pins s σ H _ v Q I rx ⟨_, rfl, q⟩
def oC (g : Int → Int → Bool) : R2 := fun x y H Q => int2 (fun i j => Q (.bl (g i j)) H) x y
theorem oC_of {X : Cx} {f : Value → Value → Sem Value} {g : Int → Int → Bool} (h : OpR X f (rI0 fun i j => .bl (g i j))) : OpR X f (oC g) := OpR.of h fun x y H Q q => by
  cases x <;> cases y <;> try exact q.elim
  exact ⟨_, _, rfl, rfl, q⟩
def oLt : R2 := oC fun i j => decide (i < j)
def oLe : R2 := oC fun i j => decide (i ≤ j)
def oGt : R2 := oC fun i j => decide (j < i)
def oGe : R2 := oC fun i j => decide (j ≤ i)
theorem o_lt {X : Cx} : OpR X (compareOp .Lt) oLt := oC_of op_lt
theorem o_le {X : Cx} : OpR X (compareOp .LtE) oLe := oC_of op_le
theorem o_gt {X : Cx} : OpR X (compareOp .Gt) oGt := oC_of op_gt
theorem o_ge {X : Cx} : OpR X (compareOp .GtE) oGe := oC_of op_ge
def oIsN : R2 := fun x y H Q => y = .non ∧ Q (.bl (match x with | .non => true | _ => false)) H
def oNotN : R2 := fun x y H Q => y = .non ∧ Q (.bl (match x with | .non => false | _ => true)) H
theorem o_isN {X : Cx} : OpR X (compareOp .Is) oIsN := OpR.of op_isN fun x y H Q q => ⟨q.1, by cases x <;> exact q.2⟩
theorem o_notN {X : Cx} : OpR X (compareOp .IsNot) oNotN := OpR.of op_notN fun x y H Q q => ⟨q.1, by cases x <;> exact q.2⟩
/-- two data compared -/
structure EqD (K : Frag) (H : Hp) (x y : V) (k : Bool → Prop) : Prop where
  ex : ∃ d e, Dp K H x d ∧ Dp K H y e ∧ SeqAt.shaped d = true ∧ SeqAt.shaped e = true ∧ k (PyData.eqv d e)
/-- == of scalars and of data -/
def oEq (K : Frag) : R2 := fun x y H Q => match x, y with
  | .int i, .int j => Q (.bl (decide (i = j))) H
  | .str i, .str j => Q (.bl (decide (i = j))) H
  | .bl i, .bl j => Q (.bl (decide (i = j))) H
  | .non, .non => Q (.bl true) H
  | .non, .int _ => Q (.bl false) H
  | .int _, .non => Q (.bl false) H
  | .non, .bl _ => Q (.bl false) H
  | .bl _, .non => Q (.bl false) H
  | .non, .str _ => Q (.bl false) H
  | .str _, .non => Q (.bl false) H
  | .int _, .str _ => Q (.bl false) H
  | .str _, .int _ => Q (.bl false) H
  | x, y => EqD K H x y fun b => Q (.bl b) H
def oNe (K : Frag) : R2 := fun x y H Q => oEq K x y H fun v H' => match v with
  | .bl b => Q (.bl (!b)) H'
  | _ => False
theorem o_eq {X : Cx} (hu : X.A.units + 64 < cLine) : OpR X (compareOp .Eq) (oEq X.K) := OpR.of (op_eq.or (op_eqD hu)) fun x y H Q q => by
  cases x <;> cases y <;> first
    | exact .inr q.ex
    | (refine .inl ⟨rfl, ?_⟩; refine Eq.mp (congrArg (fun b => Q (V.bl b) H) ?_) q; simp)
theorem o_ne {X : Cx} (hu : X.A.units + 64 < cLine) : OpR X (compareOp .NotEq) (oNe X.K) := OpR.of (op_ne.or (op_neD hu)) fun x y H Q q => by
  cases x <;> cases y <;> first
    | exact .inr q.ex
    | (refine .inl ⟨rfl, ?_⟩; refine Eq.mp (congrArg (fun b => Q (V.bl b) H) ?_) q; simp)
/-! ### comparisons as tests, chains -/
def dCmp (r : R2) (ta tb : TE) : TE := tOp r ta tb
def isB (Q : Bool → Hp → Prop) : VK := fun z H => match z with
  | .bl k => Q k H
  | _ => False
theorem isB_ex {Q : Bool → Hp → Prop} {z : V} {H : Hp} (h : isB Q z H) : ∃ k, z = .bl k ∧ Q k H := by
  cases z <;> try exact h.elim
  exact ⟨_, rfl, h⟩
def dCmpT (r : R2) (ta tb : TE) : TT := fun σ H Q => ta σ H fun x H1 => tb σ H1 fun y H2 => r x y H2 (isB Q)
theorem pt_cmp {X : Cx} {op : CmpOp} {a b : Expr} {ta tb : TE} {pos : Pos} {r : R2} (ho : OpR X (compareOp op) r) (ha : PE X a ta) (hb : PE X b tb) (hm : behindInMarks op b = false) : PT X (.Compare a [op] [b] pos) (dCmpT r ta tb) := by
  refine ⟨fun pins s σ H Q I h => ?_⟩
  refine wpAny_isTrue_Compare1 (thn (ha.run pins s σ H _ I h) fun v s1 ⟨x, H1, I1, r1, q1⟩ => thn (hb.run pins s1 σ H1 _ I1 q1) fun u s2 ⟨y, H2, I2, r2, q2⟩ =>
    thn (ho pins s2 σ H2 x y v u _ I2 r1 r2 q2) fun c s3 ⟨z, H3, I3, r3, q3⟩ => ?_) hm
  obtain ⟨k, e, q3⟩ := isB_ex q3
  subst e
  cases r3
  exact wpAny_truthy_bool ⟨H3, I3, q3⟩
def dChain (r r' : R2) (ta tb tc : TE) : TE := fun σ H Q => ta σ H fun x H1 => tb σ H1 fun y H2 => r x y H2 (isB fun k H3 => bIf k (tc σ H3 fun w' H4 => r' y w' H4 Q) (Q (.bl false) H3))
def dChainT (r r' : R2) (ta tb tc : TE) : TT := fun σ H Q => dChain r r' ta tb tc σ H (isB Q)
theorem pe_cmp {X : Cx} {op : CmpOp} {a b : Expr} {ta tb : TE} {pos : Pos} {r : R2} (ho : OpR X (compareOp op) r) (ha : PE X a ta) (hb : PE X b tb) (hm : behindInMarks op b = false) : PE X (.Compare a [op] [b] pos) (tOp r ta tb) := pe_cmpR ho ha hb hm
theorem pe_chain {X : Cx} {op op' : CmpOp} {a b c : Expr} {r r' : R2} {ta tb tc : TE} {pos : Pos} (ho : OpR X (compareOp op) r) (ho' : OpR X (compareOp op') r') (ha : PE X a ta) (hb : PE X b tb) (hc : PE X c tc)
    (hm : lastMarks [op, op'] [b, c] = false := by with_unfolding_all rfl) : PE X (.Compare a [op, op'] [b, c] pos) (dChain r r' ta tb tc) := by
  refine ⟨fun pins s σ H Q I h => ?_⟩
  refine Compare_chain (thn (ha.run pins s σ H _ I h) fun v s1 ⟨x, H1, I1, r1, q1⟩ => chain_link (thn (hb.run pins s1 σ H1 _ I1 q1) fun u s2 ⟨y, H2, I2, r2, q2⟩ =>
    thn (ho pins s2 σ H2 x y v u _ I2 r1 r2 q2) fun d s3 ⟨z, H3, I3, r3, q3⟩ => ?_)) hm
  obtain ⟨k, e, q3⟩ := isB_ex q3
  subst e
  cases r3
  refine wpAny_truthy_bool ?_
  cases k with
  | false => exact ite_ff ⟨.bl false, H3, I3, rfl, q3⟩
  | true => exact ite_tt (chain_last (thn (hc.run pins s3 σ H3 _ I3 q3) fun w' s4 ⟨z', H4, I4, r4, q4⟩ => ho' pins s4 σ H4 y z' u w' Q I4 r2 r4 q4))
theorem pt_chain {X : Cx} {op op' : CmpOp} {a b c : Expr} {r r' : R2} {ta tb tc : TE} {pos : Pos} (ho : OpR X (compareOp op) r) (ho' : OpR X (compareOp op') r') (ha : PE X a ta) (hb : PE X b tb) (hc : PE X c tc)
    (hm : lastMarks [op, op'] [b, c] = false := by with_unfolding_all rfl) : PT X (.Compare a [op, op'] [b, c] pos) (dChainT r r' ta tb tc) := by
  refine ⟨fun pins s σ H Q I h => ?_⟩
  refine isTrue_chain (thn (ha.run pins s σ H _ I h) fun v s1 ⟨x, H1, I1, r1, q1⟩ => test_link (thn (hb.run pins s1 σ H1 _ I1 q1) fun u s2 ⟨y, H2, I2, r2, q2⟩ =>
    thn (ho pins s2 σ H2 x y v u _ I2 r1 r2 q2) fun d s3 ⟨z, H3, I3, r3, q3⟩ => ?_)) hm
  obtain ⟨k, e, q3⟩ := isB_ex q3
  subst e
  cases r3
  refine wpAny_truthy_bool ?_
  cases k with
  | false => exact ite_ff ⟨H3, I3, q3⟩
  | true =>
    refine ite_tt (test_last (thn (hc.run pins s3 σ H3 _ I3 q3) fun w' s4 ⟨z', H4, I4, r4, q4⟩ => thn (ho' pins s4 σ H4 y z' u w' _ I4 r2 r4 q4) fun d' s5 ⟨z2, H5, I5, r5, q5⟩ => ?_))
    obtain ⟨k2, e2, q5⟩ := isB_ex q5
    subst e2
    cases r5
    exact wpAny_truthy_bool ⟨H5, I5, q5⟩
theorem pw_and {X : Cx} {a b : Expr} {rest : List Expr} {tA tB' : TT} {pos : Pos} (ha : PT X a tA) (hb : PW X (.BoolOp .And (b :: rest) pos) tB') : PW X (.BoolOp .And (a :: b :: rest) pos) (dAnd tA tB') := by
  refine ⟨fun wh pins s σ H Q I h => ?_⟩
  refine isTrue_and (thn (ha.run pins s σ H _ I h) fun c s1 ⟨H1, I1, q1⟩ => ?_)
  cases c with
  | true => exact hb.run wh pins s1 σ H1 Q I1 q1
  | false => exact ⟨H1, I1, q1⟩
theorem pw_or {X : Cx} {a b : Expr} {rest : List Expr} {tA tB' : TT} {pos : Pos} (ha : PT X a tA) (hb : PW X (.BoolOp .Or (b :: rest) pos) tB') : PW X (.BoolOp .Or (a :: b :: rest) pos) (dOr tA tB') := by
  refine ⟨fun wh pins s σ H Q I h => ?_⟩
  refine isTrue_or (thn (ha.run pins s σ H _ I h) fun c s1 ⟨H1, I1, q1⟩ => ?_)
  cases c with
  | true => exact ⟨H1, I1, q1⟩
  | false => exact hb.run wh pins s1 σ H1 Q I1 q1
theorem pt_not {X : Cx} {a : Expr} {tA : TT} {pos : Pos} (ha : PT X a tA) : PT X (.UnaryOp .Not a pos) (dNot tA) := L2.pt_not ha
theorem pe_ifE {X : Cx} {c a b : Expr} {tA : TT} {ta tb : TE} {pos : Pos} (hc : PT X c tA) (ha : PE X a ta) (hb : PE X b tb) : PE X (.IfExp c a b pos) (dIfE tA ta tb) := by
  refine ⟨fun pins s σ H Q I h => ?_⟩
  refine wpAny_IfExp (thn (hc.run pins s σ H _ I h) fun d s1 ⟨H1, I1, q1⟩ => ?_)
  cases d with
  | true => exact ha.run pins s1 σ H1 Q I1 q1
  | false => exact hb.run pins s1 σ H1 Q I1 q1
theorem ps_if {X : Cx} {c : Expr} {a b : List Stmt} {tc : TT} {t u : TS} {pos : Pos} (hc : PT X c tc) (ha : PSs X a t) (hb : PSs X b u) : PS X (.If c a b pos) (dIfS tc t u) := by
  refine ⟨fun pins s σ H D I h => ?_⟩
  refine wpAny_If (thn (hc.run pins s σ H _ I h) fun d s1 ⟨H1, I1, q1⟩ => ?_)
  cases d with
  | true => exact ha.run pins s1 σ H1 D I1 q1
  | false => exact hb.run pins s1 σ H1 D I1 q1
/-- and, or as values: all but the last True or False -/
def dAndV (ta tb : TE) : TE := fun σ H Q => ta σ H (isB fun c H1 => bIf c (tb σ H1 Q) (Q (.bl false) H1))
def dOrV (ta tb : TE) : TE := fun σ H Q => ta σ H (isB fun c H1 => bIf c (Q (.bl true) H1) (tb σ H1 Q))
def dNotV (ta : TE) : TE := fun σ H Q => ta σ H (isB fun c H1 => Q (.bl (!c)) H1)
theorem pe_and {X : Cx} {a b : Expr} {rest : List Expr} {ta tb : TE} {pos : Pos} (ha : PE X a ta) (hb : PE X (.BoolOp .And (b :: rest) pos) tb) : PE X (.BoolOp .And (a :: b :: rest) pos) (dAndV ta tb) := by
  refine ⟨fun pins s σ H Q I h => ?_⟩
  refine BoolOp_and (thn (ha.run pins s σ H _ I h) fun v s1 ⟨x, H1, I1, r1, q1⟩ => ?_)
  obtain ⟨c, e, q⟩ := isB_ex q1
  subst e
  cases r1
  refine wpAny_truthy_bool ?_
  cases c with
  | true => exact hb.run pins s1 σ H1 Q I1 q
  | false => exact ⟨.bl false, H1, I1, rfl, q⟩
theorem pe_or {X : Cx} {a b : Expr} {rest : List Expr} {ta tb : TE} {pos : Pos} (ha : PE X a ta) (hb : PE X (.BoolOp .Or (b :: rest) pos) tb) : PE X (.BoolOp .Or (a :: b :: rest) pos) (dOrV ta tb) := by
  refine ⟨fun pins s σ H Q I h => ?_⟩
  refine BoolOp_or (thn (ha.run pins s σ H _ I h) fun v s1 ⟨x, H1, I1, r1, q1⟩ => ?_)
  obtain ⟨c, e, q⟩ := isB_ex q1
  subst e
  cases r1
  refine wpAny_truthy_bool ?_
  cases c with
  | true => exact ⟨.bl true, H1, I1, rfl, q⟩
  | false => exact hb.run pins s1 σ H1 Q I1 q
theorem pe_not {X : Cx} {a : Expr} {ta : TE} {pos : Pos} (ha : PE X a ta) : PE X (.UnaryOp .Not a pos) (dNotV ta) := by
  refine ⟨fun pins s σ H Q I h => ?_⟩
  refine UnaryOp_ (thn (ha.run pins s σ H _ I h) fun v s1 ⟨x, H1, I1, r1, q1⟩ => ?_)
  obtain ⟨c, e, q⟩ := isB_ex q1
  subst e
  cases r1
  exact not_of (wpAny_truthy_bool ⟨.bl (!c), H1, I1, rfl, q⟩)
/-! ### subscripts, slices -/
/-- the sign at i -/
structure AtS (z : Str) (i : Int) (k : Nat → Prop) : Prop where
  ex : ∃ c, atI z.cps.toList i = some c ∧ k c
def oIx (K : Frag) : R2 := fun x y H Q => match x, y with
  | .ref p, .int i => Rd K H p fun xs => At xs i fun v => Q v H
  | .str z, .int i => Need (z.length ≤ sizeLine) (AtS z i fun c => Q (.str ⟨#[c]⟩) H)
  | _, _ => False
theorem ix_any {X : Cx} : IxR X (oIx X.K) := IxR.of ix_seq fun x y H Q q => by
  cases x <;> cases y <;> try exact q.elim
  · obtain ⟨hz, ⟨c, e, q⟩⟩ := q
    exact .inr (.inr ⟨_, _, c, rfl, rfl, hz, e, q⟩)
  · obtain ⟨⟨xs, hs, ⟨v, e, q⟩⟩⟩ := q
    rcases hs with hs | hs
    · exact .inl ⟨_, xs, _, v, rfl, rfl, hs, e, q⟩
    · exact .inr (.inl ⟨_, xs, _, v, rfl, rfl, hs, e, q⟩)
def dPart (t : TE) : TO := fun σ H Q => t σ H fun x H1 => match x with
  | .int i => Q (some i) H1
  | _ => False
theorem po_some {X : Cx} {e : Expr} {te : TE} (h : PE X e te) : PO X (some e) (dPart te) := by
  refine ⟨fun pins s σ H Q I q => ?_⟩
  rw [evalPart_some]
  refine thn (h.run pins s σ H _ I q) fun u s1 ⟨x, H1, I1, r1, q1⟩ => ?_
  cases x <;> try exact q1.elim
  obtain ⟨t, rfl⟩ := r1
  exact ⟨_, H1, I1, .int _ t, q1⟩
/-- a slice of the list, of the tuple at p -/
structure Cut (K : Frag) (H : Hp) (p : Addr) (lo hi : Option Int) (Q : V → Hp → Prop) : Prop where
  ex : (∃ xs, SqL K H p xs ∧ ∀ q, H q = none → Q (.ref q) (upd H q (.lst (cutV xs lo hi)))) ∨ (∃ xs, SqT K H p xs ∧ ∀ q H', Same H H' → SqT K H' q (cutV xs lo hi) → Q (.ref q) H')
theorem Cut.l {K : Frag} {H : Hp} {p : Addr} {lo hi : Option Int} {Q : V → Hp → Prop} {xs : List V} (h : SqL K H p xs) (q : ∀ q, H q = none → Q (.ref q) (upd H q (.lst (cutV xs lo hi)))) : Cut K H p lo hi Q := ⟨.inl ⟨xs, h, q⟩⟩
theorem Cut.t {K : Frag} {H : Hp} {p : Addr} {lo hi : Option Int} {Q : V → Hp → Prop} {xs : List V} (h : SqT K H p xs) (q : ∀ q H', Same H H' → SqT K H' q (cutV xs lo hi) → Q (.ref q) H') : Cut K H p lo hi Q := ⟨.inr ⟨xs, h, q⟩⟩
def oSl (K : Frag) : V → Option Int → Option Int → Hp → VK → Prop := fun x lo hi H Q => match x with
  | .ref p => Cut K H p lo hi Q
  | _ => False
theorem SlR.of {X : Cx} {r r' : V → Option Int → Option Int → Hp → VK → Prop} (h : SlR X r) (i : ∀ x l u H Q, r' x l u H Q → r x l u H Q) : SlR X r' := fun pins s σ H x v vl vu lo hi sl Q I rx hs pl pu q => h pins s σ H x v vl vu lo hi sl Q I rx hs pl pu (i x lo hi H Q q)
theorem cut_whole {xs : List V} {lo hi : Option Int} (h : HT.sIx xs.length 0 lo = 0 ∧ HT.sIx xs.length xs.length hi = xs.length) : cutV xs lo hi = xs := by
  unfold cutV
  rw [h.1, h.2]
  simp
theorem sl_any {X : Cx} : SlR X (oSl X.K) := SlR.of (sl_list.or sl_tupA) fun x lo hi H Q q => by
  cases x <;> try exact q.elim
  rcases q.ex with ⟨xs, h, q⟩ | ⟨xs, h, q⟩
  · exact .inl ⟨_, xs, rfl, h, q⟩
  · refine .inr ⟨_, xs, rfl, h, fun w => ?_, fun _ p hp => q _ _ (same_new hp) (SqT.of upd_same)⟩
    exact q _ _ (Same.refl _) (by rw [cut_whole w]; exact h)
/-! ### displays -/
def dLst (t : TA) : TE := fun σ H Q => t σ H fun xs H1 => Need (xs.length ≤ sizeLine) (NewL H1 xs Q)
def dTup (K : Frag) (t : TA) : TE := fun σ H Q => t σ H fun xs H1 => Need (xs.length ≤ sizeLine) (NewT K H1 xs Q)
theorem pe_tup {X : Cx} {es : List Expr} {t : TA} {x1} {pos : Pos} (h : PA X es t) : PE X (.Tuple es x1 pos) (dTup X.K t) := by
  refine ⟨fun pins s σ H Q I hq => ?_⟩
  refine wpAny_Tuple_spliced (thn (h.run pos pins s σ H _ I hq) fun us s1 ⟨xs, H1, I1, r, ⟨z, ⟨q⟩⟩⟩ => ⟨by rw [← r.length]; exact z, ?_⟩)
  have hf : H1 s1.heap.objs.size = none := I1.hok.fresh (Nat.le_refl _)
  refine ⟨.ref s1.heap.objs.size, upd H1 s1.heap.objs.size (.tup xs), I1.laid (t' := s1.toks) (fun b u e => Heap.get?_push_of_some _ e) (Nat.le_refl _) ?_, rfl, q _ _ (same_new hf) (SqT.of upd_same)⟩
  exact ⟨z, us, r, ⟨_, Heap.get?_push_size _ rfl, rfl, _, rfl⟩⟩
theorem pe_lst {X : Cx} {es : List Expr} {t : TA} {pos : Pos} (h : PA X es t) : PE X (.List es pos) (dLst t) := by
  refine ⟨fun pins s σ H Q I hq => ?_⟩
  refine wpAny_List_spliced (thn (h.run pos pins s σ H _ I hq) fun us s1 ⟨xs, H1, I1, r, ⟨z, ⟨q⟩⟩⟩ => ⟨by rw [← r.length]; exact z, ?_⟩)
  have hf : H1 s1.heap.objs.size = none := I1.hok.fresh (Nat.le_refl _)
  refine ⟨.ref s1.heap.objs.size, upd H1 s1.heap.objs.size (.lst xs), I1.laid (t' := s1.toks) (fun b u e => Heap.get?_push_of_some _ e) (Nat.le_refl _) ?_, rfl, q _ hf⟩
  exact ⟨z, us, 0, r, Heap.get?_push_size _ rfl⟩
/-! ### builtin calls -/
def cLen (K : Frag) : List V → Hp → VK → Prop := fun xs H Q => match xs with
  | [.str z] => Need (z.length ≤ sizeLine) (Q (.int z.length) H)
  | [.ref p] => Rd K H p fun ys => Q (.int ys.length) H
  | _ => False
theorem c_len {X : Cx} : CallR X (.builtin "len") (cLen X.K) := CallR.of (call_len_seq.or call_len_str) fun xs H Q q => by
  match xs, q with
  | [.str z], q => exact .inr ⟨z, rfl, q.c, q.q⟩
  | [.ref p], ⟨⟨ys, h, q⟩⟩ => exact .inl ⟨p, ys, rfl, h, q⟩
def cTuple (K : Frag) : List V → Hp → VK → Prop := fun xs H Q => match xs with
  | [.ref p] => Rd K H p fun ys => NewT K H ys Q
  | _ => False
theorem c_tuple {X : Cx} : CallR X (.type "tuple") (cTuple X.K) := CallR.of call_tuple_of fun xs H Q q => by
  match xs, q with
  | [.ref p], ⟨⟨ys, h, ⟨q⟩⟩⟩ =>
    refine ⟨p, ys, rfl, ?_⟩
    rcases h with h | h
    · exact .inl ⟨h, fun l hl => q _ _ (same_new hl) (SqT.of upd_same)⟩
    · exact .inr ⟨h, q _ _ (Same.refl _) h⟩
def cList (K : Frag) : List V → Hp → VK → Prop := fun xs H Q => match xs with
  | [.ref p] => Rd K H p fun ys => NewL H ys Q
  | _ => False
theorem c_list {X : Cx} : CallR X (.type "list") (cList X.K) := CallR.of call_list_of fun xs H Q q => by
  match xs, q with
  | [.ref p], ⟨⟨ys, h, ⟨q⟩⟩⟩ => exact ⟨p, ys, rfl, h, q⟩
def b2i (b : Bool) : Int := match b with
  | true => 1
  | false => 0
def cInt : List V → Hp → VK → Prop := fun xs H Q => match xs with
  | [.int i] => Q (.int i) H
  | [.bl b] => Q (.int (b2i b)) H
  | _ => False
theorem c_int {X : Cx} : CallR X (.type "int") cInt := CallR.of call_int1 fun xs H Q q => by
  match xs, q with
  | [.int i], q => exact .inl ⟨_, rfl, q⟩
  | [.bl b], q =>
    refine .inr ⟨_, rfl, ?_⟩
    cases b <;> exact q
def cAbs : List V → Hp → VK → Prop := fun xs H Q => match xs with
  | [.int i] => Q (.int (i.natAbs : Int)) H
  | _ => False
theorem c_abs {X : Cx} : CallR X (.builtin "abs") cAbs := CallR.of call_abs fun xs H Q q => by
  match xs, q with
  | [.int i], q =>
    refine ⟨_, rfl, ?_⟩
    have e : (if i < 0 then -i else i) = (i.natAbs : Int) := by split <;> omega
    rw [e]; exact q
def cMax2 : List V → Hp → VK → Prop := fun xs H Q => match xs with
  | [.int i, .int j] => Q (.int (max i j)) H
  | _ => False
theorem c_max2 {X : Cx} (hc : X.calm = true) : CallR X (.builtin "max") cMax2 := CallR.of (call_max2 hc) fun xs H Q q => by
  match xs, q with
  | [.int i, .int j], q =>
    refine ⟨_, _, rfl, ?_⟩
    have e : (if j > i then j else i) = max i j := by split <;> omega
    rw [e]; exact q
def cMin2 : List V → Hp → VK → Prop := fun xs H Q => match xs with
  | [.int i, .int j] => Q (.int (min i j)) H
  | _ => False
theorem c_min2 {X : Cx} (hc : X.calm = true) : CallR X (.builtin "min") cMin2 := CallR.of (call_min2 hc) fun xs H Q q => by
  match xs, q with
  | [.int i, .int j], q =>
    refine ⟨_, _, rfl, ?_⟩
    have e : (if j < i then j else i) = min i j := by split <;> omega
    rw [e]; exact q
/-- isinstance(x, T), one class -/
structure Isi (K : Frag) (H : Hp) (x : V) (u : Value) (k : Bool → Prop) : Prop where
  ex : (∃ t b, TyX K H x t ∧ PySem.W.kitOne K t u = some b ∧ k b) ∨ (∃ a C dx vs b, x = .ref a ∧ SlX.Slt H a C dx vs ∧ SlX.SCls K C ∧ SlX.SIsi K C ∧ PySem.W.kitOne K (.ref C) u = some b ∧ k b)
theorem Isi.of {K : Frag} {H : Hp} {x : V} {u t : Value} {b : Bool} {k : Bool → Prop} (h : TyX K H x t) (e : PySem.W.kitOne K t u = some b) (q : k b) : Isi K H x u k := ⟨.inl ⟨t, b, h, e, q⟩⟩
def cIsi (K : Frag) : List V → Hp → VK → Prop := fun xs H Q => match xs with
  | [x, .ty n] => Isi K H x (.type n) fun b => Q (.bl b) H
  | [x, .ref C] => Isi K H x (.ref C) fun b => Q (.bl b) H
  | _ => False
theorem c_isi {X : Cx} : CallR X (.builtin "isinstance") (cIsi X.K) := by
  intro pins s σ H xs us Q I r q
  match xs, q with
  | [x, .ty n], ⟨.inl ⟨t, b, h1, h2, q⟩⟩ => exact call_isi pins s σ H _ us Q I r ⟨x, _, t, _, b, rfl, .ty n, h1, h2, q⟩
  | [x, .ref C], ⟨.inl ⟨t, b, h1, h2, q⟩⟩ => exact call_isi pins s σ H _ us Q I r ⟨x, _, t, _, b, rfl, .own C, h1, h2, q⟩
  | [x, .ty n], ⟨.inr ⟨a, C, dx, vs, b, e, h1, h2, h3, h4, q⟩⟩ =>
    subst e
    exact SlX.call_isiSl (.type n) pins s σ H _ us Q I r ⟨a, C, dx, vs, _, b, rfl, rfl, fun w z => z, h1, h2, h3, h4, q⟩
  | [x, .ref D], ⟨.inr ⟨a, C, dx, vs, b, e, h1, h2, h3, h4, q⟩⟩ =>
    subst e
    exact SlX.call_isiSl (.ref D) pins s σ H _ us Q I r ⟨a, C, dx, vs, _, b, rfl, rfl, fun w z => z, h1, h2, h3, h4, q⟩
/-! ### methods of lists -/
/-- a list stands at p -/
structure IsL (K : Frag) (H : Hp) (p : Addr) (q : Prop) : Prop where
  ex : ∃ xs, SqL K H p xs
  q : q
theorem IsL.of {K : Frag} {H : Hp} {p : Addr} {q : Prop} {xs : List V} (h : H p = some (.lst xs)) (q1 : q) : IsL K H p q := ⟨⟨xs, SqL.of h⟩, q1⟩
def dML (K : Frag) (r : V → List V → Hp → VK → Prop) (to : TE) (t : TA) : TE := fun σ H Q => to σ H fun x H1 => match x with
  | .ref l => IsL K H1 l (t σ H1 fun vs H2 => r (.ref l) vs H2 Q)
  | _ => False
theorem pe_ml {X : Cx} {o e : Expr} {es : List Expr} {to : TE} {t : TA} {name : Str} {apos cpos : Pos} {id : String} {r : V → List V → Hp → VK → Prop} (slot : Slot "list" name id) (hty : typeOf (.builtin id) = pure (.type "method_descriptor")) (hm : MtR X id r) (ho : PE X o to) (ha : PA X (e :: es) t)
    (hbase : attributeBase o name X.env (eval o X.env) = eval o X.env := by rfl)
    (hfew : ((backTo cpos (starEach (e :: es) X.env)).all (fun x => !x.1) && (backToKw cpos (keywordEach [] X.env)).all (fun x => x.1.isSome)
      && decide ((e :: es).length + ([] : List Keyword).length + (if ([] : List Keyword).isEmpty then 0 else 1) < 30)) = true := by rfl)
    (hline : (apos.endLine == cpos.line) = true := by rfl) (hs : starEach (e :: es) X.env = (false, eval e X.env) :: starEach es X.env := by rfl) (hplain : (backTo cpos (starEach es X.env)).any (·.1) = false := by rfl) :
    PE X (.Call (.Attribute o name apos) (e :: es) [] cpos) (dML X.K r to t) := by
  refine ⟨fun pins s σ H Q I h => ?_⟩
  refine wpAny_Call_method_late hbase hfew hline rfl (thn (ho.run pins s σ H _ I h) fun v s1 ⟨x, H1, I1, r1, q1⟩ => ?_)
  cases x <;> try exact q1.elim
  obtain ⟨hx, q1⟩ := q1
  obtain ⟨h1, h2⟩ := tyV_is (T := "list") I1 r1 (.inl ⟨rfl, hx⟩)
  refine ⟨"list", id, PySem.F.plainAttrs_list, slot, hty, h1, h2, ?_⟩
  have hA := ha.run cpos pins s1 σ H1 _ I1 q1
  rw [hs] at hA ⊢
  refine Calls.callWith_builtin (by show (false || (backTo cpos (starEach es X.env)).any (·.1)) = false; rw [hplain] <;> rfl) (Calls.evalArgs_plain ?_)
  exact thn hA fun us s2 ⟨vs, H2, I2, r2, q2⟩ => hm pins s2 σ H2 _ vs _ us Q I2 r1 r2 q2
theorem pe_ml0 {X : Cx} {o : Expr} {to : TE} {name : Str} {apos cpos : Pos} {id : String} {r : V → List V → Hp → VK → Prop} (slot : Slot "list" name id) (hty : typeOf (.builtin id) = pure (.type "method_descriptor")) (hm : MtR X id r) (ho : PE X o to)
    (hbase : attributeBase o name X.env (eval o X.env) = eval o X.env := by rfl) (hline : (apos.endLine == cpos.line) = true := by rfl) : PE X (.Call (.Attribute o name apos) [] [] cpos) (dML X.K r to tNil) := by
  refine ⟨fun pins s σ H Q I h => ?_⟩
  refine wpAny_Call_method0_late hbase hline (thn (ho.run pins s σ H _ I h) fun v s1 ⟨x, H1, I1, r1, q1⟩ => ?_)
  cases x <;> try exact q1.elim
  obtain ⟨hx, q1⟩ := q1
  obtain ⟨h1, h2⟩ := tyV_is (T := "list") I1 r1 (.inl ⟨rfl, hx⟩)
  exact ⟨"list", id, PySem.F.plainAttrs_list, slot, hty, h1, h2, Calls.callWith_builtin rfl (PySem.evalArgs_none (hm pins s1 σ H1 _ [] _ [] Q I1 r1 .nil q1))⟩
theorem MtR.of {X : Cx} {id : String} {r r' : V → List V → Hp → VK → Prop} (h : MtR X id r) (i : ∀ x xs H Q, r' x xs H Q → r x xs H Q) : MtR X id r' := fun pins s σ H x xs v us Q I rx rs q => h pins s σ H x xs v us Q I rx rs (i x xs H Q q)
abbrev M2 := V → List V → Hp → VK → Prop
/-- the list at x changed -/
def mL (f : List V → List V → Hp → (V → List V → Prop) → Prop) : M2 := fun x vs H Q => match x with
  | .ref l => Ls H l fun xs => f xs vs H fun z ys => Q z (upd H l (.lst ys))
  | _ => False
def mApp : M2 := mL fun xs vs _ k => match vs with
  | [y] => Need (xs.length < sizeLine) (k .non (xs ++ [y]))
  | _ => False
theorem m_app {X : Cx} : MtR X "list.append" mApp := MtR.of mt_append fun x vs H Q q => by
  cases x <;> try exact q.elim
  match vs, q with
  | [y], ⟨⟨xs, h, ⟨hz, q⟩⟩⟩ => exact ⟨_, xs, y, rfl, rfl, h, hz, q⟩
theorem at_last {xs : List V} {y : V} (h : atI xs (-1) = some y) : xs[xs.length - 1]? = some y := by
  unfold atI ixN at h
  rw [if_neg (by decide)] at h
  by_cases hn : -(xs.length : Int) ≤ -1
  · rw [if_pos hn, Option.bind_some] at h
    have e : (-1 + (xs.length : Int)).toNat = xs.length - 1 := by omega
    rw [e] at h
    exact h
  · rw [if_neg hn] at h
    cases h
def mPop : M2 := mL fun xs vs _ k => match vs with
  | [] => At xs (-1) fun y => k y xs.dropLast
  | _ => False
theorem m_pop {X : Cx} : MtR X "list.pop" mPop := MtR.of mt_pop fun x vs H Q q => by
  cases x <;> try exact q.elim
  match vs, q with
  | [], ⟨⟨xs, h, ⟨y, hy, q⟩⟩⟩ => exact ⟨_, xs, y, rfl, rfl, h, at_last hy, q⟩
def mRev : M2 := mL fun xs vs _ k => match vs with
  | [] => k .non xs.reverse
  | _ => False
theorem m_rev {X : Cx} : MtR X "list.reverse" mRev := MtR.of mt_reverse fun x vs H Q q => by
  cases x <;> try exact q.elim
  match vs, q with
  | [], ⟨⟨xs, h, q⟩⟩ => exact ⟨_, xs, rfl, rfl, h, q⟩
def mIns : M2 := mL fun xs vs _ k => match vs with
  | [.int i, y] => Need (xs.length < sizeLine ∧ 0 ≤ i ∧ i < 2 ^ 63) (k .non (xs.take i.toNat ++ [y] ++ xs.drop i.toNat))
  | _ => False
theorem m_ins {X : Cx} : MtR X "list.insert" mIns := MtR.of mt_insert fun x vs H Q q => by
  cases x <;> try exact q.elim
  match vs, q with
  | [.int i, y], ⟨⟨xs, h, ⟨⟨hz, h0, h1⟩, q⟩⟩⟩ => exact ⟨_, xs, i, y, rfl, rfl, h, hz, h0, h1, q⟩
def mExt : M2 := mL fun xs vs H k => match vs with
  | [.ref b] => Ls H b fun zs => Need (xs.length + zs.length ≤ sizeLine) (k .non (xs ++ zs))
  | _ => False
theorem m_ext {X : Cx} : MtR X "list.extend" mExt := MtR.of mt_extend fun x vs H Q q => by
  cases x <;> try exact q.elim
  match vs, q with
  | [.ref b], ⟨⟨xs, h, ⟨⟨zs, h2, ⟨hz, q⟩⟩⟩⟩⟩ => exact ⟨_, b, xs, zs, rfl, rfl, h, h2, hz, q⟩
/-! ### stores -/
/-- the place i in n -/
structure Pl (n : Nat) (i : Int) (k : Nat → Prop) : Prop where
  ex : ∃ j, ixN n i = some j ∧ k j
theorem Pl.of {n : Nat} {i : Int} {k : Nat → Prop} {j : Nat} (h : ixN n i = some j) (q : k j) : Pl n i k := ⟨j, h, q⟩
def oSet : V → V → V → Hp → (Hp → Prop) → Prop := fun o i v H Q => match o, i with
  | .ref p, .int k => Ls H p fun xs => Pl xs.length k fun j => Q (upd H p (.lst (xs.set j v)))
  | _, _ => False
theorem s_list {X : Cx} : PSet X oSet := fun pins s σ H o i v uo ui uv Q I ro ri rv q => by
  cases o <;> cases i <;> try exact q.elim
  obtain ⟨⟨xs, h, ⟨j, e, q⟩⟩⟩ := q
  exact set_list pins s σ H _ _ v uo ui uv Q I ro ri rv ⟨_, xs, _, j, rfl, rfl, h, e, q⟩
/-! ### loops over a list or a tuple -/
/-- the list or the tuple at a is walked -/
structure Walk (K : Frag) (H : Hp) (a : Addr) (R : It → Hp → Prop) : Prop where
  ex : ((∃ xs, SqL K H a xs) ∧ R (Itl K a) H) ∨ ((∃ xs, SqT K H a xs) ∧ R (Itt K a) H)
def iSm (K : Frag) (x : V) (H : Hp) (R : It → Hp → Prop) : Prop := match x with
  | .ref a => Walk K H a R
  | _ => False
def iSeq (K : Frag) (tl : TE) : TI := fun σ H R => tl σ H fun x H1 => iSm K x H1 R
theorem pi_seq {X : Cx} {tg l : Expr} {tl : TE} (hl : PE X l tl) : PI X tg l (iSeq X.K tl) := by
  refine ⟨fun pins s σ H R I h => ?_⟩
  refine thn (hl.run pins s σ H _ I h) fun v s1 ⟨x, H1, I1, r1, q1⟩ => ?_
  cases x <;> try exact q1.elim
  cases r1
  rcases q1.ex with ⟨⟨xs, hq⟩, q⟩ | ⟨⟨xs, hq⟩, q⟩
  · obtain ⟨its, rv, p, hz⟩ := I1.list hq
    refine wpAny_pyIter_list p.isList ?_
    refine ⟨s1.heap.objs.size, [s1.heap.objs.size], _, _, H1, rfl, I1.kept (t' := s1.toks) fun b o e => Heap.get?_push_of_some _ e, turn_list _ _, ⟨_, Heap.get?_push_size _ rfl, rfl, rfl⟩, fun b hb => ?_, q⟩
    have e : b = s1.heap.objs.size := by simpa using hb
    subst e
    exact I1.fpOk (Nat.le_refl _) (I1.hok.fresh (Nat.le_refl _))
  · obtain ⟨its, rv, p, hz⟩ := I1.tuple hq
    refine wpAny_pyIter_tuple (show s1.heap.IsTuple _ its.toArray from p) ?_
    refine ⟨s1.heap.objs.size, [s1.heap.objs.size], _, _, H1, rfl, I1.kept (t' := s1.toks) fun b o e => Heap.get?_push_of_some _ e, turn_tuple _ _, ⟨_, Heap.get?_push_size _ rfl, rfl, rfl⟩, fun b hb => ?_, q⟩
    have e : b = s1.heap.objs.size := by simpa using hb
    subst e
    exact I1.fpOk (Nat.le_refl _) (I1.hok.fresh (Nat.le_refl _))
/-- what a loop asks of its walk -/
def LoopR (D : Ends) (g : TG) (tb : TS) (σ : L2.St) : It → Hp → Prop := fun J H1 => ∃ W : Nat → Nat → L2.St → Hp → Prop, (∃ m, W 0 m σ H1) ∧ ∀ i m σ H, W i m σ H →
  (J.stop i H ∧ D.nx σ H) ∨ (J.go i H ∧ ∃ N : L2.St → Hp → Prop, (∀ σ' H', N σ' H' → ∃ m', m' < m ∧ W (i + 1) m' σ' H') ∧ ∀ x H', J.yld i H x H' → g x σ H' fun σ2 H2 => tb { D with nx := N, ct := N, bk := D.nx } σ2 H2)
def dFor (wi : TI) (g : TG) (tb : TS) : TS := fun D σ H => wi σ H (LoopR D g tb σ)
theorem ps_for {X : Cx} {tg iter : Expr} {body : List Stmt} {wi : TI} {g : TG} {tb : TS} {pos : Pos} (hp : PassesOwn (model X.prog X.w) X.A X.env X.xe) (hc : X.calm = true) (hi : PI X tg iter wi) (hg : PG X tg g) (hb : PSs X body tb)
    (hs : ∀ x, foldedSetIterable iter X.env x = pure x := by intro _; rfl) : PS X (.For tg iter body [] pos) (dFor wi g tb) := L2.ps_for hp hc hi hg hb hs
/-- the sequence at p stands as it stood -/
def Stay (K : Frag) (p : Addr) (H H' : Hp) : Prop := ∀ xs, (SqL K H p xs → SqL K H' p xs) ∧ (SqT K H p xs → SqT K H' p xs)
theorem Same.tup {K : Frag} {H H' : Hp} {a : Addr} {xs : List V} (e : Same H H') (h : SqT K H a xs) : SqT K H' a xs := by
  rcases h with (h | ⟨o, h⟩) | h
  · exact .inl (.inl (e _ _ h))
  · exact .inl (.inr ⟨o, e _ _ h⟩)
  · exact .inr h
theorem Same.sqa {K : Frag} {H H' : Hp} {a : Addr} {xs : List V} (e : Same H H') (h : SqA K H a xs) : SqA K H' a xs := h.imp e.seq (Same.tup e)
theorem Same.stay {K : Frag} {H H' : Hp} {a : Addr} (e : Same H H') : Stay K a H H' := fun _ => ⟨e.seq, Same.tup e⟩
/-- all but what stands at st stays -/
def SameX (st : Addr) (H H' : Hp) : Prop := ∀ b o, H b = some o → b ≠ st → H' b = some o
theorem SameX.refl (st : Addr) (H : Hp) : SameX st H H := fun _ _ h _ => h
theorem SameX.trans {st : Addr} {H H1 H2 : Hp} (a : SameX st H H1) (b : SameX st H1 H2) : SameX st H H2 := fun c o h n => b c o (a c o h n) n
theorem SameX.then {st : Addr} {H H1 H2 : Hp} (a : SameX st H H1) (b : Same H1 H2) : SameX st H H2 := fun c o h n => b c o (a c o h n)
theorem Same.thenX {st : Addr} {H H1 H2 : Hp} (a : Same H H1) (b : SameX st H1 H2) : SameX st H H2 := fun c o h n => b c o (a c o h) n
theorem Same.x {st : Addr} {H H1 : Hp} (a : Same H H1) : SameX st H H1 := fun c o h _ => a c o h
theorem SameX.upd {st : Addr} {H : Hp} {o : HO} : SameX st H (upd H st o) := fun b u h n => by rw [upd_ne n]; exact h
/-- what st was made behind H0 -/
theorem SameX.same {st : Addr} {H0 H H' : Hp} (a : Same H0 H) (b : SameX st H H') (n : H0 st = none) : Same H0 H' := fun c o h => b c o (a c o h) (ne_of_none h n)
theorem SameX.seq {K : Frag} {st : Addr} {H H' : Hp} {a : Addr} {xs : List V} (e : SameX st H H') (h : SqL K H a xs) (n : a ≠ st) : SqL K H' a xs := by
  rcases h with (h | ⟨o, h⟩) | h
  · exact .inl (.inl (e _ _ h n))
  · exact .inl (.inr ⟨o, e _ _ h n⟩)
  · exact .inr h
theorem SameX.tup {K : Frag} {st : Addr} {H H' : Hp} {a : Addr} {xs ys : List V} (e : SameX st H H') (h : SqT K H a xs) (hst : H st = some (.lst ys)) : SqT K H' a xs := by
  rcases h with (h | ⟨o, h⟩) | h
  · exact .inl (.inl (e _ _ h (ne_of h hst (by intro z; cases z))))
  · exact .inl (.inr ⟨o, e _ _ h (ne_of h hst (by intro z; cases z))⟩)
  · exact .inr h
theorem sl_upd {K : Frag} {H : Hp} {a p : Addr} {o : HO} {xs : List V} (h : SqL K H a xs) (n : a ≠ p) : SqL K (upd H p o) a xs := by
  rcases h with (h | ⟨u, h⟩) | h
  · exact .inl (.inl (by rw [upd_ne n]; exact h))
  · exact .inl (.inr ⟨u, by rw [upd_ne n]; exact h⟩)
  · exact .inr h
theorem st_upd {K : Frag} {H : Hp} {a p : Addr} {o : HO} {xs : List V} (h : SqT K H a xs) (n : a ≠ p) : SqT K (upd H p o) a xs := by
  rcases h with (h | ⟨u, h⟩) | h
  · exact .inl (.inl (by rw [upd_ne n]; exact h))
  · exact .inl (.inr ⟨u, by rw [upd_ne n]; exact h⟩)
  · exact .inr h
theorem up_of {H : Hp} {a p : Addr} {o u : HO} (n : a ≠ p) (h : H a = some u) : upd H p o a = some u := by rw [upd_ne n]; exact h
theorem SameX.put {st : Addr} {H0 H1 : Hp} {o : HO} (e : SameX st H0 H1) : SameX st H0 (L2.upd H1 st o) := e.trans SameX.upd
theorem appS {K : Frag} {H H1 : Hp} {a st : Addr} {xs : List V} (h : ∀ H1, SameX st H H1 → SqL K H1 a xs) (e : SameX st H H1) : SqL K H1 a xs := h H1 e
/-- over a list or a tuple that the body leaves as it is -/
theorem for_seq {K : Frag} {p : Addr} {xs : List V} {g : TG} {tb : TS} {D : Ends} {σ : L2.St} {H : Hp} (Pv : Nat → L2.St → Hp → Prop) (hx : SqA K H p xs) (h0 : Pv 0 σ H) (hl : ∀ i σ H', i ≤ xs.length → Pv i σ H' → Stay K p H H')
    (hs : ∀ i x σ H, xs[i]? = some x → Pv i σ H → g x σ H fun σ2 H2 => tb { D with nx := Pv (i + 1), ct := Pv (i + 1), bk := D.nx } σ2 H2) (hd : ∀ σ H, Pv xs.length σ H → D.nx σ H) :
    Walk K H p (LoopR D g tb σ) := by
  rcases hx with hx | hx
  · exact ⟨.inl ⟨⟨xs, hx⟩, for_list Pv h0 (fun i σ H' hi q => (hl i σ H' hi q xs).1 hx) hs hd⟩⟩
  · exact ⟨.inr ⟨⟨xs, hx⟩, for_tup Pv h0 (fun i σ H' hi q => (hl i σ H' hi q xs).2 hx) hs hd⟩⟩
/-! ### ranges -/
def iR1 (vs : List V) (H : Hp) (R : It → Hp → Prop) : Prop := match vs with
  | [.int j] => Need (-(2 ^ 62) ≤ j ∧ j < 2 ^ 62) (R (Itr 0 j.toNat) H)
  | _ => False
def iRng (ta : TA) : TI := fun σ H R => ta σ H fun vs H1 => iR1 vs H1 R
theorem pi_rng {X : Cx} {tg a : Expr} {ta : TA} {p pos : Pos} (hg : Gl X "range") (hm : X.mg "range" = none) (ha : PA X [a] ta) (hs : starEach [a] X.env = [(false, eval a X.env)] := by rfl) : PI X tg (.Call (.Name "range" p) [a] [] pos) (iRng ta) := by
  refine ⟨fun pins s σ H R I h => ?_⟩
  refine Call_ (ld_blt I hg hm boot_range (PyProof.Rows.callWith_type1 (thn (ha.run pos pins s σ H _ I h) fun us s1 ⟨vs, H1, I1, r1, q1⟩ => ?_) hs rfl))
  match vs, q1 with
  | [.int j], ⟨⟨q1, q2⟩, q⟩ =>
    cases r1 with
    | cons r rr =>
      cases rr
      obtain ⟨t, rfl⟩ := r
      exact call_range_1 (range_it I1 (by omega) (by omega) q1 q2 (by simpa using q))
def iR2 (vs : List V) (H : Hp) (R : It → Hp → Prop) : Prop := match vs with
  | [.int i, .int j] => Need (-(2 ^ 62) ≤ i ∧ i < 2 ^ 62 ∧ -(2 ^ 62) ≤ j ∧ j < 2 ^ 62) (R (Itr i (j - i).toNat) H)
  | _ => False
def iRngB (ta : TA) : TI := fun σ H R => ta σ H fun vs H1 => iR2 vs H1 R
theorem pi_rngB {X : Cx} {tg a b : Expr} {ta : TA} {p pos : Pos} (hg : Gl X "range") (hm : X.mg "range" = none) (ha : PA X [a, b] ta) (hs : starEach [a, b] X.env = [(false, eval a X.env), (false, eval b X.env)] := by rfl) (hs2 : starEach [b] X.env = [(false, eval b X.env)] := by rfl) :
    PI X tg (.Call (.Name "range" p) [a, b] [] pos) (iRngB ta) := by
  refine ⟨fun pins s σ H R I h => ?_⟩
  refine Call_ (ld_blt I hg hm boot_range (PyProof.Rows.callWith_type1 (thn (ha.run pos pins s σ H _ I h) fun us s1 ⟨vs, H1, I1, r1, q1⟩ => ?_) (by rw [hs, hs2]) (by rw [hs2]; rfl)))
  match vs, q1 with
  | [.int i, .int j], ⟨⟨q1, q2, q3, q4⟩, q⟩ =>
    cases r1 with
    | cons r rr =>
      cases rr with
      | cons r' rr =>
        cases rr
        obtain ⟨t, rfl⟩ := r
        obtain ⟨t', rfl⟩ := r'
        exact call_range_2 (range_it I1 q1 q2 q3 q4 q)
theorem for_rngB {a b : Int} {g : TG} {tb : TS} {D : Ends} {σ : L2.St} {H : Hp} (Pv : Nat → L2.St → Hp → Prop) (h0 : Pv 0 σ H)
    (hs : ∀ (i : Nat) σ H, a + (i : Int) < b → Pv i σ H → g (.int (a + i)) σ H fun σ2 H2 => tb { D with nx := Pv (i + 1), ct := Pv (i + 1), bk := D.nx } σ2 H2) (hd : ∀ σ H, Pv (b - a).toNat σ H → D.nx σ H) :
    LoopR D g tb σ (Itr a (b - a).toNat) H := L2.for_range (lo := a) Pv h0 (fun i σ H hi q => hs i σ H (by omega) q) hd
theorem for_rng {n : Int} {g : TG} {tb : TS} {D : Ends} {σ : L2.St} {H : Hp} (Pv : Nat → L2.St → Hp → Prop) (h0 : Pv 0 σ H)
    (hs : ∀ (i : Nat) σ H, (i : Int) < n → Pv i σ H → g (.int i) σ H fun σ2 H2 => tb { D with nx := Pv (i + 1), ct := Pv (i + 1), bk := D.nx } σ2 H2) (hd : ∀ σ H, Pv n.toNat σ H → D.nx σ H) :
    LoopR D g tb σ (Itr 0 n.toNat) H := by
  refine L2.for_range (lo := 0) Pv h0 (fun i σ H hi q => ?_) hd
  have z := hs i σ H (by omega) q
  rw [Int.zero_add]; exact z
/-! ### while -/
def WhileR (c : TT) (tb : TS) (D : Ends) (σ : L2.St) (H : Hp) : Prop := ∃ W : Nat → L2.St → Hp → Prop, (∃ m, W m σ H) ∧ ∀ m σ H, W m σ H →
  c σ H fun b H1 => bIf b (tb { D with nx := fun σ' H' => ∃ m', m' < m ∧ W m' σ' H', ct := fun σ' H' => ∃ m', m' < m ∧ W m' σ' H', bk := D.nx } σ H1) (D.nx σ H1)
structure Loop (c : TT) (tb : TS) (D : Ends) (σ : L2.St) (H : Hp) : Prop where
  ex : WhileR c tb D σ H
def dWhile (c : TT) (tb : TS) : TS := fun D σ H => Loop c tb D σ H
theorem ps_while {X : Cx} {c : Expr} {body : List Stmt} {tc : TT} {tb : TS} {pos : Pos} (hp : PassesOwn (model X.prog X.w) X.A X.env X.xe) (hc : PT X c tc) (hb : PSs X body tb) : PS X (.While c body [] pos) (dWhile tc tb) := by
  refine ⟨fun pins s σ H D I h => ?_⟩
  obtain ⟨⟨W, ⟨m0, w0⟩, turn⟩⟩ := h
  refine wpAny_While (codeAny_whileLoop (fun n s' => ∃ σ' H', Inv X pins σ' H' s' ∧ W n σ' H') ?_ m0 ⟨σ, H, I, w0⟩)
  rintro n s1 ⟨σ1, H1, I1, w1⟩
  refine wpAny_passesOwn hp (thn (hc.run pins s1 σ1 H1 _ I1 (turn n σ1 H1 w1)) fun b s2 ⟨H2, I2, q2⟩ => ?_)
  cases b with
  | true =>
    rw [if_pos rfl]
    refine wpAny_passesOwn hp (thn (hb.run pins s2 σ1 H2 _ I2 q2) fun f s3 q3 => ?_)
    cases f with
    | next =>
      obtain ⟨σ3, H3, I3, m', hm, w3⟩ := q3
      exact ⟨m', hm, σ3, H3, I3, w3⟩
    | cont =>
      obtain ⟨σ3, H3, I3, m', hm, w3⟩ := q3
      exact ⟨m', hm, σ3, H3, I3, w3⟩
    | brk => exact q3
    | ret v => exact q3
  | false =>
    rw [if_neg Bool.false_ne_true]
    exact wpAny_execs_nil ⟨σ1, H2, I2, q2⟩
/-! ### calls of the module's defs, by positional promises -/
/-- f(e, ..): what is raised is wished for at the caller's slots -/
def dCall (sp : Sp) (E : L2.St → XK) (t : TA) : TE := fun σ H Q => t σ H fun vs H1 => sp vs H1 Q (E σ)
section
variable {X : Cx} {k : Nat} {g : Addr} {sp : Sp} {E : L2.St → XK} {x : Str} {p pos : Pos} {e : Expr} {es : List Expr} {t : TA}
theorem run_R {pins : List (Addr × Obj)} {σ : L2.St} {H : Hp} {s : Shared} {Q : VK} {us : List Value} {vs : List V} (F : FnR X.prog X.w X.K X.mg X.base (L2.CX X.prog X.w) k g sp) (hr : Room k X.A) (hx : PassesAt (L2.CX X.prog X.w) X σ (E σ))
    (I : Inv X pins σ H s) (r : Vals vs us) (h : sp vs H Q (E σ)) : wpAny (model X.prog X.w) X.A (call (.ref g) us) (EP X pins σ Q) X.xe s := by
  refine wpAny_call (codeAny_mono (F X.A X.stack s H us vs Q (E σ) hr I.env0 r h) fun r s' hq => ?_)
  cases r with
  | error e => exact hx pins H s e s' I hq
  | ok fl =>
    cases fl with
    | ret u => exact I.after hq
    | next => exact False.elim hq
    | brk => exact False.elim hq
    | cont => exact False.elim hq
theorem pe_call (F : FnR X.prog X.w X.K X.mg X.base (L2.CX X.prog X.w) k g sp) (hr : Room k X.A) (hm : X.mg x = some (.ref g)) (hk : PySem.W.keepIn X.K (.ref g) = true) (hx : ∀ σ, PassesAt (L2.CX X.prog X.w) X σ (E σ))
    (ha : PA X (e :: es) t) (hg : Gl X x := by rfl) (hdb : (x == ("__debug__" : Str)) = false := by decide) (he : starEach (e :: es) X.env = (false, eval e X.env) :: starEach es X.env := by rfl) (hpl : (backTo pos (starEach es X.env)).any (·.1) = false := by rfl) :
    PE X (.Call (.Name x p) (e :: es) [] pos) (dCall sp E t) := by
  refine ⟨fun pins s σ H Q I h => ?_⟩
  refine wpAny_Call_Name_kw (ld_glob I hg hm ?_ hdb)
  refine PySem.W.callWith_K (h₀ := X.base) I.ok.mod.kin hk (thn (ha.run pos pins s σ H _ I h) fun us s1 ⟨vs, H1, I1, r, q⟩ => ⟨I1.kIn, ?_⟩) he hpl
  exact run_R F hr (hx σ) I1 r q
end
/-- f(e, ..), f a built-in function | type -/
theorem pe_cb {X : Cx} {x : Str} {p pos : Pos} {e : Expr} {es : List Expr} {t : TA} {id : String} {r : List V → Hp → VK → Prop} (hc : CallR X (.builtin id) r) (hm : X.mg x = none) (hv : bootBuiltins x = some (.builtin id)) (ha : PA X (e :: es) t) (hg : Gl X x := by rfl) (hn : x ≠ "__name__" := by decide) (hdb : (x == ("__debug__" : Str)) = false := by decide)
    (he : starEach (e :: es) X.env = (false, eval e X.env) :: starEach es X.env := by rfl) (hpl : (backTo pos (starEach es X.env)).any (·.1) = false := by rfl) : PE X (.Call (.Name x p) (e :: es) [] pos) (tCB r t) := pe_callB hc hg hm hv ha hn hdb he hpl
theorem pe_ct {X : Cx} {x : Str} {p pos : Pos} {e : Expr} {es : List Expr} {t : TA} {T : String} {r : List V → Hp → VK → Prop} (hc : CallR X (.type T) r) (hm : X.mg x = none) (hv : bootBuiltins x = some (.type T)) (ha : PA X (e :: es) t) (hg : Gl X x := by rfl) (hn : x ≠ "__name__" := by decide) (hdb : (x == ("__debug__" : Str)) = false := by decide)
    (he : starEach (e :: es) X.env = (false, eval e X.env) :: starEach es X.env := by rfl) (hpl : (backTo pos (starEach es X.env)).any (·.1) = false := by rfl) : PE X (.Call (.Name x p) (e :: es) [] pos) (tCB r t) := pe_callTy hc hg hm hv ha hn hdb he hpl
/-- a built-in's name as a value -/
theorem pe_bt {X : Cx} {x : Str} {n : String} {pos : Pos} (hm : X.mg x = none) (hv : bootBuiltins x = some (.type n)) (hg : Gl X x := by rfl) (hn : x ≠ "__name__" := by decide) (hd : (x == ("__debug__" : Str)) = false := by decide) : PE X (.Name x pos) (tC (.ty n)) := pe_bltn hg hm hv rfl hn hd
/-! ### a def by its body -/
section
variable {P : Program} {w : World} {K : Frag} {mg : Str → Option Value} {base : Heap}
abbrev FR (P : Program) (w : World) (K : Frag) (mg : Str → Option Value) (base : Heap) (k : Nat) (f : Addr) (sp : Sp) : Prop := FnR P w K mg base (L2.CX P w) k f sp
/-- the context of a def's body -/
abbrev cxD (P : Program) (w : World) (K : Frag) (mg : Str → Option Value) (base : Heap) (N : List Str) (qual : Str) (scope : Scope) (f : Addr) (cd : Value) (A : Around) (outer : List Env) (s : Shared) (H : Hp) (E : XK) : Cx := cxOf (L2.CX P w) P w K mg base N qual scope f cd A outer s H E
theorem mk_fn {x qual : Str} {params : Arguments} {body : List Stmt} {scope : Scope} {f : Addr} {fd : FuncData} {N ps : List Str} {k : Nat} {sp : Sp} (F : FunD K x qual params body scope [] [] f fd) (S : FnScope N ps scope) (len : ∀ vs H Q E, sp vs H Q E → vs.length = ps.length)
    (hb : ∀ (kV doc pm : Value) (an : Option Addr) (cdv ct : Value) (us : List Value), us.length = ps.length → bindArgs (PySem.W.fnOf x qual params body scope .none kV doc pm an cdv ct) ⟨us, []⟩ = pure (ps.zip us)) {t : XK → TS}
    (hbody : ∀ (cdv : Value) (A : Around) (outer : List Env) (s : Shared) (H : Hp) (E : XK), Room k (A.deeper (envOfC qual scope s.heap.objs.size f cdv)) →
      PSs (cxD P w K mg base N qual scope f cdv A outer s H E) body (t E))
    (pure : ∀ vs H Q E, sp vs H Q E → t E { nx := fun _ H' => Q .non H', rt := Q } (start N vs) H) : FR P w K mg base (k + 1) f sp := by
  have z := (FunD.ok (P := P) (w := w) (mg := mg) (base := base) (CX := L2.CX P w) (sp := sp) F S len fun cdv A outer s H vs Q E hr h => ⟨t E, hbody cdv A outer s H E hr, pure vs H Q E h⟩).raw (F.bindsN hb) .nil
  intro A outer s H us vs Q E hr e0 r hs
  exact z A outer s H us vs Q E hr e0 r (by show sp (vs ++ []) H Q E; rw [List.append_nil]; exact hs)
end
/-- the wish of a def's body: what leaves it leaves the def -/
abbrev EW (E : XK) : L2.St → XK := fun _ => E
theorem passD {P : Program} {w : World} {K : Frag} {mg : Str → Option Value} {base : Heap} {N : List Str} {qual : Str} {scope : Scope} {f : Addr} {cd : Value} {A : Around} {outer : List Env} {s : Shared} {H : Hp} {E : XK} :
    ∀ σ, PassesAt (L2.CX P w) (cxD P w K mg base N qual scope f cd A outer s H E) σ (EW E σ) := fun σ => passAt (takes_of rfl rfl rfl rfl) σ
theorem ownD {P : Program} {w : World} {K : Frag} {mg : Str → Option Value} {base : Heap} {N : List Str} {qual : Str} {scope : Scope} {f : Addr} {cd : Value} {A : Around} {outer : List Env} {s : Shared} {H : Hp} {E : XK} :
    PassesOwn (model P w) (cxD P w K mg base N qual scope f cd A outer s H E).A (cxD P w K mg base N qual scope f cd A outer s H E).env (cxD P w K mg base N qual scope f cd A outer s H E).xe := passes_of rfl
/-! ### named rests: the walk stops there -/
structure Stop (t : TS) (D : Ends) (σ : L2.St) (H : Hp) : Prop where
  go : t D σ H
def stop (t : TS) : TS := fun D σ H => Stop t D σ H
theorem pss_stop {X : Cx} {st : List Stmt} {t : TS} (h : PSs X st t) : PSs X st (stop t) := ⟨fun pins s σ H D I q => h.run pins s σ H D I q.go⟩
/-! ### the law's own def: nothing leaves it -/
theorem passL0 {X : Cx} : ∀ σ, PassesAt (L2.CX X.prog X.w) X σ (EW E0 σ) := fun _ _ _ _ _ _ _ h => by
  obtain ⟨_, _, _, _, _, _, _, _, _, _, _, _, z⟩ := h
  exact z.elim
theorem mk_law {P : Program} {w : World} {K : Frag} {mg : Str → Option Value} {base : Heap} {x qual : Str} {params : Arguments} {body : List Stmt} {scope : Scope} {f : Addr} {fd : FuncData} {N ps : List Str} {k : Nat} {sp : Sp} (F : FunD K x qual params body scope [] [] f fd) (S : FnScope N ps scope) (len : ∀ vs H Q E, sp vs H Q E → vs.length = ps.length)
    {t : XK → TS} (hbody : ∀ (cdv : Value) (A : Around) (outer : List Env) (s : Shared) (H : Hp) (E : XK), Room k (A.deeper (envOfC qual scope s.heap.objs.size f cdv)) →
      PSs (cxOf CX0 P w K mg base N qual scope f cdv A outer s H E).nox body (t E0))
    (pure : ∀ vs H Q E, sp vs H Q E → t E0 { nx := fun _ H' => Q .non H', rt := Q } (start N vs) H) : FnOk P w K mg base CX0 (k + 1) f fd ps sp :=
  FunD.ok F S len fun cdv A outer s H vs Q E hr h => ⟨t E0, PSs.nox (hbody cdv A outer s H E hr), pure vs H Q E h⟩
/-! ### comprehensions with one for -/
structure Wr (R : It → Hp → Prop) (J : It) (H : Hp) : Prop where
  go : R J H
theorem pi_wr {X : Cx} {tg iter : Expr} {wi : TI} (h : PI X tg iter wi) : PI X tg iter (fun σ H R => wi σ H (Wr R)) := ⟨fun pins s σ H R I q =>
  thn (h.run pins s σ H (Wr R) I q) fun _ _ z => thn z fun _ _ ⟨it, fp, tn, J, H', e, I', T, t0, f, r⟩ => ⟨it, fp, tn, J, H', e, I', T, t0, f, r.go⟩⟩
def LcGo (g : TG) (tt : TT) (te : TE) (vs : List Nat) (σ : L2.St) (Q : VK) (J : It) (H1 : Hp) : Prop :=
  ∀ D, H1 D = none → ∃ W : Nat → Nat → Hp → Prop, (∃ m, W 0 m (upd H1 D (.lst []))) ∧ ∀ i m H, W i m H →
    (J.stop i H ∧ Q (.ref D) H) ∨ (J.go i H ∧ ∃ Nx : Hp → Prop, (∀ H', Nx H' → ∃ m', m' < m ∧ W (i + 1) m' H') ∧ ∀ x H', J.yld i H x H' → g x (wipe σ vs) H' fun σ2 H2 => wipe σ2 vs = wipe σ vs ∧ tt σ2 H2 fun b H3 =>
      if b = true then te σ2 H3 fun y H4 => ∃ acc, H4 D = some (.lst acc) ∧ acc.length < sizeLine ∧ Nx (upd H4 D (.lst (acc ++ [y]))) else Nx H3)
def dLc (wi : TI) (g : TG) (tt : TT) (te : TE) (vs : List Nat) : TE := fun σ H Q => wi σ H (Wr (LcGo g tt te vs σ Q))
theorem pe_lc {X : Cx} {elt tg iter : Expr} {ifs : List Expr} {scope : Scope} {own : List (Str × Nat)} {pos : Pos} {wi : TI} {g : TG} {tt : TT} {te : TE} (hc : X.calm = true) (hN : X.N.Nodup) (hi : PI X tg iter wi) (ok : BlkOk X.N X.env.scope scope own)
    (hg : ∀ (s : Shared) (H : Hp) (C : Addr) (cl : List (Str × Addr)) (fp : List Addr), PG (X.blk s H scope (compEnvC scope cl C X.env) fp) tg g) (ht : ∀ (s : Shared) (H : Hp) (C : Addr) (cl : List (Str × Addr)) (fp : List Addr), PTs (X.blk s H scope (compEnvC scope cl C X.env) fp) ifs tt)
    (he : ∀ (s : Shared) (H : Hp) (C : Addr) (cl : List (Str × Addr)) (fp : List Addr), PE (X.blk s H scope (compEnvC scope cl C X.env) fp) elt te) (hs : ∀ x, foldedSetIterable iter X.env x = pure x := by intro _; rfl) :
    PE X (.ListComp elt [⟨tg, iter, ifs, 0⟩] scope pos) (dLc wi g tt te (own.map (·.2))) := L2.pe_lc hc hN (pi_wr hi) ok hg ht he hs
theorem ps_setLc {X : Cx} {i : Nat} {y : Str} {py : Pos} {elt tg iter : Expr} {ifs : List Expr} {scope : Scope} {own : List (Str × Nat)} {pos spos : Pos} {wi : TI} {g : TG} {tt : TT} {te : TE} (hc : X.calm = true) (hN : X.N.Nodup) (hy : X.N[i]? = some y) (hyl : X.env.scope.names.lookup y = some .local)
    (hsw : swapsWith (.ListComp elt [⟨tg, iter, ifs, 0⟩] scope pos) (some (.Name y py)) spos.line X.env = pure true) (hi : PI X tg iter wi) (ok : BlkOk X.N X.env.scope scope own)
    (hg : ∀ (s : Shared) (H : Hp) (C : Addr) (cl : List (Str × Addr)) (fp : List Addr), PG (X.blk s H scope (compEnvC scope cl C X.env) fp) tg g) (ht : ∀ (s : Shared) (H : Hp) (C : Addr) (cl : List (Str × Addr)) (fp : List Addr), PTs (X.blk s H scope (compEnvC scope cl C X.env) fp) ifs tt)
    (he : ∀ (s : Shared) (H : Hp) (C : Addr) (cl : List (Str × Addr)) (fp : List Addr), PE (X.blk s H scope (compEnvC scope cl C X.env) fp) elt te) (hs : ∀ x, foldedSetIterable iter X.env x = pure x := by intro _; rfl) :
    PS X (.Assign [.Name y py] (.ListComp elt [⟨tg, iter, ifs, 0⟩] scope pos) spos) (tAsg (dLc wi g tt te (own.map (·.2))) (gName i)) := L2.ps_setLc hc hN hy hyl hsw (pi_wr hi) ok hg ht he hs
theorem ifc {c : Prop} [Decidable c] {A B : Prop} (h1 : c → A) (h2 : ¬ c → B) : if decide c = true then A else B := by
  by_cases h : c
  · rw [decide_eq_true h]; exact iteT (h1 h)
  · rw [decide_eq_false h]; exact iteF (h2 h)
/-- over a list or a tuple, by a word over (turn, heap): the new list stands at D -/
theorem lc_seq {K : Frag} {p : Addr} {xs : List V} {g : TG} {tt : TT} {te : TE} {vs : List Nat} {σ : L2.St} {H1 : Hp} {Q : VK} (hx : SqA K H1 p xs)
    (h : ∀ D, H1 D = none → ∃ Pv : Nat → Hp → Prop, Pv 0 (upd H1 D (.lst [])) ∧ (∀ i H, i ≤ xs.length → Pv i H → ∀ ys, (SqL K H1 p ys → SqL K H p ys) ∧ (SqT K H1 p ys → SqT K H p ys)) ∧
      (∀ i x H, xs[i]? = some x → Pv i H → g x (wipe σ vs) H fun σ2 H2 => wipe σ2 vs = wipe σ vs ∧ tt σ2 H2 fun b H3 =>
        if b = true then te σ2 H3 fun y H4 => ∃ acc, H4 D = some (.lst acc) ∧ acc.length < sizeLine ∧ Pv (i + 1) (upd H4 D (.lst (acc ++ [y]))) else Pv (i + 1) H3) ∧ (∀ H, Pv xs.length H → Q (.ref D) H)) :
    Walk K H1 p (Wr (LcGo g tt te vs σ Q)) := by
  rcases hx with hx | hx
  · refine ⟨.inl ⟨⟨xs, hx⟩, ⟨fun D hD => ?_⟩⟩⟩
    obtain ⟨Pv, h0, hl, hs, hd⟩ := h D hD
    exact lc_list (Qd := fun H => Q (.ref D) H) Pv h0 (fun i H hi q => (hl i H hi q xs).1 hx) hs hd
  · refine ⟨.inr ⟨⟨xs, hx⟩, ⟨fun D hD => ?_⟩⟩⟩
    obtain ⟨Pv, h0, hl, hs, hd⟩ := h D hD
    exact lc_tup (Qd := fun H => Q (.ref D) H) Pv h0 (fun i H hi q => (hl i H hi q xs).2 hx) hs hd
/-- all but lists stays (dicts too) -/
def SameI (H H' : Hp) : Prop := ∀ b o, H b = some o → (∀ l, o ≠ .lst l) → H' b = some o
theorem Same.i {H H' : Hp} (e : Same H H') : SameI H H' := fun b o h _ => e b o h
theorem SameI.trans {H H1 H2 : Hp} (a : SameI H H1) (b : SameI H1 H2) : SameI H H2 := fun c o h n => b c o (a c o h n) n
theorem SameI.lst {H : Hp} {p : Addr} {xs ys : List V} (h : H p = some (.lst xs)) : SameI H (L2.upd H p (.lst ys)) := fun b o hb n => by
  by_cases e : b = p
  · subst e; rw [h] at hb; exact absurd (Option.some.inj hb).symm (n xs)
  · rw [upd_ne e]; exact hb
theorem SameX.i {st : Addr} {H H' : Hp} {xs : List V} (e : SameX st H H') (h : H st = some (.lst xs)) : SameI H H' := fun b o hb n => e b o hb fun z => by
  subst z; rw [h] at hb; exact n xs (Option.some.inj hb).symm
theorem SameI.tup {K : Frag} {H H' : Hp} {a : Addr} {xs : List V} (e : SameI H H') (h : SqT K H a xs) : SqT K H' a xs := by
  rcases h with (h | ⟨o, h⟩) | h
  · exact .inl (.inl (e _ _ h fun _ z => by cases z))
  · exact .inl (.inr ⟨o, e _ _ h fun _ z => by cases z⟩)
  · exact .inr h
theorem take_filter {xs : List V} {pr : V → Bool} {i : Nat} {x : V} (h : xs[i]? = some x) : (xs.take (i + 1)).filter pr = (xs.take i).filter pr ++ (if pr x = true then [x] else []) := by
  rw [List.take_succ, h, List.filter_append]
  congr 1
  show [x].filter pr = _
  by_cases e : pr x = true <;> simp [e]
/-- .. whose test is told by a function of the item, its elements by a relation -/
theorem lc_rel {K : Frag} {p : Addr} {xs : List V} {g : TG} {tt : TT} {te : TE} {vs : List Nat} {σ : L2.St} {H1 : Hp} {Q : VK} (R : V → V → Hp → Prop) (pr : V → Bool) (hx : SqA K H1 p xs) (hz : xs.length < sizeLine) (mono : ∀ x y H H', R x y H → SameI H H' → R x y H')
    (hs : ∀ x H (A : V → Hp → Prop) (B : Hp → Prop), x ∈ xs → Same H1 H → (∀ y H', Same H H' → R x y H' → pr x = true → A y H') → (∀ H', Same H H' → pr x = false → B H') →
      g x (wipe σ vs) H fun σ2 H2 => wipe σ2 vs = wipe σ vs ∧ tt σ2 H2 fun b H3 => if b = true then te σ2 H3 A else B H3)
    (hd : ∀ D ys H', H1 D = none → H' D = some (.lst ys) → Paired (fun x y => R x y H') (xs.filter pr) ys → Same H1 H' → Q (.ref D) H') :
    Walk K H1 p (Wr (LcGo g tt te vs σ Q)) := by
  refine lc_seq hx fun D hD => ⟨fun i H => ∃ ys, H D = some (.lst ys) ∧ Paired (fun x y => R x y H) ((xs.take i).filter pr) ys ∧ Same H1 H, ⟨[], upd_same, .nil, same_new hD⟩, fun i H _ ⟨_, _, _, e⟩ ys => ⟨e.seq, Same.tup e⟩, ?_, fun H ⟨ys, h1, h2, e⟩ => hd D ys H hD h1 (by rw [List.take_length] at h2; exact h2) e⟩
  rintro i x H hi ⟨ys, h1, h2, e⟩
  have hlen : ys.length ≤ i := by
    rw [← h2.length]
    exact Nat.le_trans (List.length_filter_le _ _) (by rw [List.length_take]; exact Nat.min_le_left _ _)
  have hil : i < xs.length := (List.getElem?_eq_some_iff.mp hi).1
  refine hs x H _ _ (List.mem_of_getElem? hi) e (fun y H' e2 r hp => ⟨ys, e2 _ _ h1, by omega, ys ++ [y], upd_same, ?_, ?_⟩) fun H' e2 hp => ⟨ys, e2 _ _ h1, ?_, e.trans e2⟩
  · have si : SameI H' (upd H' D (.lst (ys ++ [y]))) := SameI.lst (e2 _ _ h1)
    rw [take_filter hi, if_pos hp]
    exact Paired.snoc (Paired.mapP h2 fun a b r => mono _ _ _ _ r (SameI.trans (Same.i e2) si)) (mono _ _ _ _ r si)
  · intro b o hb
    rw [upd_ne (ne_of_none hb hD)]
    exact e2 _ _ (e _ _ hb)
  · rw [take_filter hi, if_neg (by rw [hp]; exact Bool.false_ne_true), List.append_nil]
    exact Paired.mapP h2 fun a b r => mono _ _ _ _ r (Same.i e2)
/-- .. whose test and elements are told by functions of the item -/
theorem lc_map {K : Frag} {p : Addr} {xs : List V} {g : TG} {tt : TT} {te : TE} {vs : List Nat} {σ : L2.St} {H1 : Hp} {Q : VK} (f : V → V) (pr : V → Bool) (hx : SqA K H1 p xs) (hz : xs.length < sizeLine)
    (hs : ∀ x H (A : V → Hp → Prop) (B : Hp → Prop), x ∈ xs → Same H1 H → (∀ H', Same H H' → pr x = true → A (f x) H') → (∀ H', Same H H' → pr x = false → B H') →
      g x (wipe σ vs) H fun σ2 H2 => wipe σ2 vs = wipe σ vs ∧ tt σ2 H2 fun b H3 => if b = true then te σ2 H3 A else B H3)
    (hd : ∀ D H', H1 D = none → H' D = some (.lst ((xs.filter pr).map f)) → Same H1 H' → Q (.ref D) H') :
    Walk K H1 p (Wr (LcGo g tt te vs σ Q)) := by
  refine lc_rel (fun x y _ => y = f x) pr hx hz (fun _ _ _ _ r _ => r) (fun x H A B hm e hA hB => hs x H A B hm e (fun H' e2 hp => hA _ _ e2 rfl hp) hB) fun D ys H' hn hD hp e => hd D H' hn ?_ e
  have key : ∀ {as bs : List V}, Paired (fun x y => y = f x) as bs → bs = as.map f := by
    intro as bs h
    induction h with
    | nil => rfl
    | cons r _ ih => rw [r, ih]; rfl
  rw [← key hp]; exact hD
end S
namespace S
open PySem PySem.Spec PyProof.Rows L2
/-! ### classes by their names -/
/-- the class x: below the classes ups of the text and the built-in ones tys -/
structure MF (K : Frag) (x : Str) (ups : List Str) (tys : List String) : Prop where
  cd : ∃ cd, PySem.W.clsIn K (He.ga K x) = some cd ∧ cd.name = x ∧ cd.mro = (x :: ups).map (fun y => Value.ref (He.ga K y)) ++ tys.map Value.type
  up : ∀ y ∈ ups, ∃ cd, PySem.W.clsIn K (He.ga K y) = some cd ∧ cd.name = y
  ty : PySem.W.typeIn K (.ref (He.ga K x)) = some (.type "type")
def nmB (K : Frag) (y : Str) : Bool := match PySem.W.clsIn K (He.ga K y) with
  | some cd => decide (cd.name = y)
  | none => false
theorem nmB_ok {K : Frag} {y : Str} (h : nmB K y = true) : ∃ cd, PySem.W.clsIn K (He.ga K y) = some cd ∧ cd.name = y := by
  unfold nmB at h
  split at h
  · rename_i cd e
    exact ⟨cd, e, of_decide_eq_true h⟩
  · cases h
def mfB (K : Frag) (x : Str) (ups : List Str) (tys : List String) : Bool := (match PySem.W.clsIn K (He.ga K x) with
  | some cd => decide (cd.name = x) && decide (cd.mro = (x :: ups).map (fun y => Value.ref (He.ga K y)) ++ tys.map Value.type)
  | none => false) && (ups.all (nmB K) && decide (PySem.W.typeIn K (.ref (He.ga K x)) = some (.type "type")))
theorem mfB_ok {K : Frag} {x : Str} {ups : List Str} {tys : List String} (h : mfB K x ups tys = true) : MF K x ups tys := by
  unfold mfB at h
  obtain ⟨h1, h2⟩ := He.ba h
  obtain ⟨h3, h4⟩ := He.ba h2
  refine ⟨?_, fun y hy => nmB_ok (List.all_eq_true.mp h3 y hy), of_decide_eq_true h4⟩
  split at h1
  · rename_i cd e
    obtain ⟨h5, h6⟩ := He.ba h1
    exact ⟨cd, e, of_decide_eq_true h5, of_decide_eq_true h6⟩
  · cases h1
theorem nm_inj {K : Frag} {x y : Str} (h1 : ∃ cd, PySem.W.clsIn K (He.ga K x) = some cd ∧ cd.name = x) (h2 : ∃ cd, PySem.W.clsIn K (He.ga K y) = some cd ∧ cd.name = y) (e : He.ga K x = He.ga K y) : x = y := by
  obtain ⟨c1, e1, n1⟩ := h1
  obtain ⟨c2, e2, n2⟩ := h2
  rw [e, e2] at e1
  cases e1
  exact n1.symm.trans n2
theorem MF.nm {K : Frag} {x : Str} {ups : List Str} {tys : List String} (m : MF K x ups tys) : ∃ cd, PySem.W.clsIn K (He.ga K x) = some cd ∧ cd.name = x := let ⟨cd, a, b, _⟩ := m.cd; ⟨cd, a, b⟩
theorem MF.all {K : Frag} {x : Str} {ups : List Str} {tys : List String} (m : MF K x ups tys) : ∀ y ∈ x :: ups, ∃ cd, PySem.W.clsIn K (He.ga K y) = some cd ∧ cd.name = y := fun y hy => by
  rcases List.mem_cons.mp hy with e | e
  · subst e; exact m.nm
  · exact m.up y e
section
variable {K : Frag} {x y : Str} {ups ups' : List Str} {tys tys' : List String}
theorem mf_sub (m : MF K x ups tys) (b : Value) : PySem.W.subIn K (.ref (He.ga K x)) b = some (decide (b ∈ (x :: ups).map (fun y => Value.ref (He.ga K y)) ++ tys.map Value.type)) := by
  obtain ⟨cd, e, _, hm⟩ := m.cd
  show PySem.W.mroIn K (He.ga K x) b = _
  unfold PySem.W.mroIn
  rw [e, Option.bind_some, hm, if_neg (by simp)]
  congr 1
  rw [Bool.eq_iff_iff]
  simp
theorem mf_cls (m : MF K x ups tys) (n : MF K y ups' tys') : PySem.W.kitCls K (.ref (He.ga K x)) (.ref (He.ga K y)) = some (decide (y ∈ x :: ups)) := by
  obtain ⟨cd, e, _⟩ := n.cd
  show (if ((PySem.W.clsIn K (He.ga K y)).isSome && PySem.W.typeIn K (.ref (He.ga K y)) == some (.type "type")) = true then PySem.W.subIn K (.ref (He.ga K x)) (.ref (He.ga K y)) else none) = _
  rw [if_pos (by rw [e, n.ty]; simp), mf_sub m]
  congr 1
  rw [decide_eq_decide]
  simp only [List.mem_append, List.mem_map]
  constructor
  · rintro (⟨z, hz, e⟩ | ⟨z, _, e⟩)
    · rw [← nm_inj (m.all z hz) n.nm (Value.ref.inj e)]
      exact hz
    · cases e
  · intro h
    exact .inl ⟨y, h, rfl⟩
theorem mf_kit (m : MF K x ups tys) (n : MF K y ups' tys') : PySem.W.kitOne K (.ref (He.ga K x)) (.ref (He.ga K y)) = some (decide (y ∈ x :: ups)) := by
  unfold PySem.W.kitOne
  split
  · rename_i h
    have e := nm_inj m.nm n.nm (Value.ref.inj (beq_iff_eq.mp h))
    subst e
    rw [decide_eq_true (List.mem_cons_self)]
  · exact mf_cls m n
theorem mf_exm (m : MF K x ups tys) (n : MF K y ups' tys') (hb : "BaseException" ∈ tys') : PySem.W.exmOne K (.ref (He.ga K x)) (.ref (He.ga K y)) = some (decide (y ∈ x :: ups)) := by
  unfold PySem.W.exmOne
  rw [if_pos, mf_cls m n]
  rw [mf_sub n, decide_eq_true]
  · rfl
  · exact List.mem_append.mpr (.inr (List.mem_map.mpr ⟨_, hb, rfl⟩))
/-- an instance of the class x against a built-in class -/
theorem mf_kty (m : MF K x ups tys) {n : String} (hk : PySem.W.kitMeta n = true) : PySem.W.kitOne K (.ref (He.ga K x)) (.type n) = some (decide (n ∈ tys)) := by
  unfold PySem.W.kitOne
  rw [if_neg (by simp)]
  show (if PySem.W.kitMeta n = true then PySem.W.subIn K (.ref (He.ga K x)) (.type n) else none) = _
  rw [if_pos hk, mf_sub m]
  congr 1
  rw [decide_eq_decide]
  simp
/-- a built-in type against the class y -/
theorem mf_tyk (n : MF K y ups' tys') {t : String} (ht : (PySem.fastBuiltinMro t).isSome = true) : PySem.W.kitOne K (.type t) (.ref (He.ga K y)) = some false := by
  unfold PySem.W.kitOne
  rw [if_neg (by simp)]
  obtain ⟨cd, e, _⟩ := n.cd
  show (if ((PySem.W.clsIn K (He.ga K y)).isSome && PySem.W.typeIn K (.ref (He.ga K y)) == some (.type "type")) = true then PySem.W.subIn K (.type t) (.ref (He.ga K y)) else none) = _
  rw [if_pos (by rw [e, n.ty]; simp)]
  show (PySem.fastBuiltinMro t).map (·.contains (.ref (He.ga K y))) = _
  obtain ⟨l, hl⟩ := Option.isSome_iff_exists.mp ht
  rw [hl]
  unfold PySem.fastBuiltinMro at hl
  obtain ⟨r, _, rfl⟩ := Option.map_eq_some_iff.mp hl
  rw [Option.map_some]
  congr 1
  rw [Bool.eq_false_iff]
  intro z
  rw [List.contains_iff_mem, List.mem_map] at z
  obtain ⟨_, _, e⟩ := z
  cases e
end
/-! ### classes with slots -/
structure CF (K : Frag) (x : Str) (fs : List Str) : Prop where
  mf : MF K x [] ["object"]
  sc : SlX.SCls K (He.ga K x)
  si : SlX.SIsi K (He.ga K x)
  sl : ∀ i f, fs[i]? = some f → SlX.Slot1 K (He.ga K x) f (He.ma K (He.ga K x) f) i
def sclsB (K : Frag) (C : Addr) : Bool := PySem.W.plainGet K C Str.empty && (PySem.W.isClsIn K C && (PySem.W.plainOver K C && He.eqO (PySem.W.findIn K (.ref C) "__setattr__") (some (some (.builtin "object.__setattr__")))))
theorem sclsB_ok {K : Frag} {C : Addr} (h : sclsB K C = true) : SlX.SCls K C := by
  obtain ⟨h1, h⟩ := He.ba h
  obtain ⟨h2, h⟩ := He.ba h
  obtain ⟨h3, h4⟩ := He.ba h
  exact ⟨h1, h2, h3, He.eqO_ok h4⟩
def sisiB (K : Frag) (C : Addr) : Bool := He.eqO (PySem.W.findIn K (.ref C) "__class__") (some (some (.builtin "object.__class__"))) && (He.eqO (PySem.W.specialIn K (.builtin "object.__class__") "__get__") (some (some (.builtin "getset_descriptor.__get__"))) &&
  (decide (PySem.W.takesIn K (.builtin "object.__class__") = some true) && decide (PySem.W.mroIn K C (.type "object") = some true)))
theorem sisiB_ok {K : Frag} {C : Addr} (h : sisiB K C = true) : SlX.SIsi K C := by
  obtain ⟨h1, h⟩ := He.ba h
  obtain ⟨h2, h⟩ := He.ba h
  obtain ⟨h3, h4⟩ := He.ba h
  exact ⟨He.eqO_ok h1, He.eqO_ok h2, of_decide_eq_true h3, of_decide_eq_true h4⟩
def slotB (K : Frag) (C : Addr) (f : Str) (p : Addr) (i : Nat) : Bool := He.eqO (PySem.W.findIn K (.ref C) f) (some (some (.ref p))) && (He.eqO (PySem.W.specialIn K (.ref p) "__get__") (some (some (.builtin "member_descriptor.__get__"))) &&
  (decide (PySem.W.takesIn K (.ref p) = some true) && (decide (PySem.W.typeIn K (.ref p) = some (.type "member_descriptor")) && (decide (PySem.W.slotIn K p C = some i) && decide (i < 1000)))))
theorem slotB_ok {K : Frag} {C : Addr} {f : Str} {p : Addr} {i : Nat} (h : slotB K C f p i = true) : SlX.Slot1 K C f p i := by
  obtain ⟨h1, h⟩ := He.ba h
  obtain ⟨h2, h⟩ := He.ba h
  obtain ⟨h3, h⟩ := He.ba h
  obtain ⟨h4, h⟩ := He.ba h
  obtain ⟨h5, h6⟩ := He.ba h
  exact ⟨He.eqO_ok h1, He.eqO_ok h2, of_decide_eq_true h3, of_decide_eq_true h4, of_decide_eq_true h5, of_decide_eq_true h6⟩
def slotsB (K : Frag) (C : Addr) : List Str → Nat → Bool
  | [], _ => true
  | f :: r, i => slotB K C f (He.ma K C f) i && slotsB K C r (i + 1)
theorem slotsB_ok {K : Frag} {C : Addr} : ∀ {fs : List Str} {n : Nat}, slotsB K C fs n = true → ∀ i f, fs[i]? = some f → SlX.Slot1 K C f (He.ma K C f) (n + i)
  | [], _, _, i, f, e => by simp at e
  | g :: r, n, h, i, f, e => by
    obtain ⟨h1, h2⟩ := He.ba (show (slotB K C g (He.ma K C g) n && slotsB K C r (n + 1)) = true from h)
    cases i with
    | zero =>
      have e' : g = f := by simpa using e
      subst e'
      exact slotB_ok h1
    | succ i =>
      have z := slotsB_ok h2 i f (by simpa using e)
      rw [show n + 1 + i = n + (i + 1) by omega] at z
      exact z
def cfB (x : Str) (fs : List Str) (K : Frag) : Bool := mfB K x [] ["object"] && (sclsB K (He.ga K x) && (sisiB K (He.ga K x) && slotsB K (He.ga K x) fs 0))
theorem cfB_ok {K : Frag} {x : Str} {fs : List Str} (h : cfB x fs K = true) : CF K x fs := by
  obtain ⟨h1, h⟩ := He.ba h
  obtain ⟨h2, h⟩ := He.ba h
  obtain ⟨h3, h4⟩ := He.ba h
  exact ⟨mfB_ok h1, sclsB_ok h2, sisiB_ok h3, fun i f e => by have z := slotsB_ok h4 i f e; rw [Nat.zero_add] at z; exact z⟩
/-! ### the exceptions -/
def veTys : List String := ["ValueError", "Exception", "BaseException", "object"]
structure ExF (K : Frag) (x : Str) (ups : List Str) : Prop where
  mf : MF K x ups veTys
  ec : L2.ExcC K (He.ga K x)
def excB (K : Frag) (D : Addr) : Bool := He.eqO (PySem.W.findIn K (.ref D) "__getattribute__") (some (some (.builtin "BaseException.__getattribute__"))) && (He.eqO (PySem.W.findIn K (.ref D) "__getattr__") (some none) && (decide (PySem.W.subIn K (.ref D) (.type "BaseException") = some true) &&
  (PySem.W.hasDictIn K D && (He.eqO (PySem.W.findIn K (.ref D) "__class__") (some (some (.builtin "object.__class__"))) && (He.eqO (PySem.W.specialIn K (.builtin "object.__class__") "__get__") (some (some (.builtin "getset_descriptor.__get__"))) &&
  (decide (PySem.W.takesIn K (.builtin "object.__class__") = some true) && decide (PySem.W.mroIn K D (.type "object") = some true)))))))
theorem excB_ok {K : Frag} {D : Addr} (h : excB K D = true) : L2.ExcC K D := by
  obtain ⟨h1, h⟩ := He.ba h
  obtain ⟨h2, h⟩ := He.ba h
  obtain ⟨h3, h⟩ := He.ba h
  obtain ⟨h4, h⟩ := He.ba h
  obtain ⟨h5, h⟩ := He.ba h
  obtain ⟨h6, h⟩ := He.ba h
  obtain ⟨h7, h8⟩ := He.ba h
  exact ⟨He.eqO_ok h1, He.eqO_ok h2, of_decide_eq_true h3, h4, He.eqO_ok h5, He.eqO_ok h6, of_decide_eq_true h7, of_decide_eq_true h8⟩
def exfB (x : Str) (ups : List Str) (K : Frag) : Bool := mfB K x ups veTys && excB K (He.ga K x)
theorem exfB_ok {K : Frag} {x : Str} {ups : List Str} (h : exfB x ups K = true) : ExF K x ups := by
  obtain ⟨h1, h2⟩ := He.ba h
  exact ⟨mfB_ok h1, excB_ok h2⟩
/-- what raising needs of a class without own __init__ -/
structure RsF (K : Frag) (x : Str) : Prop where
  q : PySem.W.excIn K (He.ga K x) He.veBase "ValueError.__new__" = true
  kp : PySem.W.keepIn K (.ref (He.ga K x)) = true
  sub : PySem.W.subIn K (.ref (He.ga K x)) (.type "BaseException") = some true
  ty : PySem.W.typeIn K (.ref (He.ga K x)) = some (.type "type")
def rsB (x : Str) (K : Frag) : Bool := (He.Fa.exc x).ok K
theorem rsB_ok {K : Frag} {x : Str} (h : rsB x K = true) : RsF K x := let ⟨a, b, c, d⟩ := He.exc_ok h; ⟨a, b, c, d⟩
/-! ### given facts -/
def dGiv (P : Prop) (t : TE) : TE := fun σ H Q => P → t σ H Q
theorem pe_giv {X : Cx} {e : Expr} {P : Prop} {t : TE} (p : P) (h : PE X e t) : PE X e (dGiv P t) := ⟨fun pins s σ H Q I q => h.run pins s σ H Q I (q p)⟩
def dGivS (P : Prop) (t : TS) : TS := fun D σ H => P → t D σ H
theorem ps_giv {X : Cx} {e : Stmt} {P : Prop} {t : TS} (p : P) (h : PS X e t) : PS X e (dGivS P t) := ⟨fun pins s σ H Q I q => h.run pins s σ H Q I (q p)⟩
/-! ### attributes -/
structure Atr (K : Frag) (H : Hp) (a : Addr) (f : Str) (k : V → Prop) : Prop where
  ex : (∃ C dx p vs i v, SlX.Slt H a C dx vs ∧ SlX.SCls K C ∧ SlX.Slot1 K C f p i ∧ vs[i]? = some (some v) ∧ k v) ∨ (∃ C dx fs v, H a = some (.ins C dx fs) ∧ Cls K C ∧ NoAttr K C f ∧ fs.lookup f = some v ∧ k v)
theorem Atr.sl {K : Frag} {H : Hp} {a dx : Addr} {f x : Str} {k : V → Prop} {fs : List Str} {vs : List (Option V)} {i : Nat} {v : V} (c : CF K x fs) (h : SlX.Slt H a (He.ga K x) dx vs) (e : fs[i]? = some f) (l : vs[i]? = some (some v)) (q : k v) : Atr K H a f k := ⟨.inl ⟨_, dx, _, vs, i, v, h, c.sc, c.sl i f e, l, q⟩⟩
def dAt (K : Frag) (f : Str) (ta : TE) : TE := fun σ H Q => ta σ H fun x H1 => match x with
  | .ref a => Atr K H1 a f fun v => Q v H1
  | _ => False
theorem pe_at {X : Cx} {e : Expr} {f : Str} {pos : Pos} {ta : TE} (he : PE X e ta) (hb : attributeBase e f X.env (eval e X.env) = eval e X.env := by rfl) : PE X (.Attribute e f pos) (dAt X.K f ta) := by
  refine ⟨fun pins s σ H Q I h => ?_⟩
  refine attr_of hb (thn (he.run pins s σ H _ I h) fun u s1 ⟨x, H1, I1, rx, q⟩ => ?_)
  cases x <;> try exact q.elim
  cases rx
  rcases q.ex with ⟨C, dx, p, vs, i, v, hs, c, t, l, q⟩ | ⟨C, dx, fs, v, ea, c, n, l, q⟩
  · exact SlX.getslot_ok I1 hs c t l fun u' s2 I2 ru => ⟨v, H1, I2, ru, q⟩
  · exact getattr_ok I1 ea c n l fun u' s2 I2 ru => ⟨v, H1, I2, ru, q⟩
structure Sto (K : Frag) (H : Hp) (a : Addr) (f : Str) (y : V) (k : Hp → Prop) : Prop where
  ex : (∃ C dx p vs i, SlX.Slt H a C dx vs ∧ SlX.SCls K C ∧ SlX.Slot1 K C f p i ∧ k (SlX.slH H a C dx (SlX.putS i y vs))) ∨ (∃ C dx fs, H a = some (.ins C dx fs) ∧ Cls K C ∧ NoAttr K C f ∧ fs.length < 1000 ∧ k (upd H a (.ins C dx (putF f y fs))))
theorem Sto.sl {K : Frag} {H : Hp} {a dx : Addr} {f x : Str} {k : Hp → Prop} {fs : List Str} {vs : List (Option V)} {i : Nat} {y : V} (c : CF K x fs) (h : SlX.Slt H a (He.ga K x) dx vs) (e : fs[i]? = some f) (q : k (SlX.slH H a (He.ga K x) dx (SlX.putS i y vs))) : Sto K H a f y k := ⟨.inl ⟨_, dx, _, vs, i, h, c.sc, c.sl i f e, q⟩⟩
def dSto (K : Frag) (f : Str) (tv ta : TE) : TS := fun D σ H => tv σ H fun y H1 => ta σ H1 fun x H2 => match x with
  | .ref a => Sto K H2 a f y fun H3 => D.nx σ H3
  | _ => False
theorem ps_sto {X : Cx} {o value : Expr} {f : Str} {pos pos' : Pos} {ta tv : TE} (hv : PE X value tv) (ha : PE X o ta) (hs : swapsWith value (some (.Attribute o f pos')) pos.line X.env = pure false := by rfl) : PS X (.Assign [.Attribute o f pos'] value pos) (dSto X.K f tv ta) := by
  refine ⟨fun pins s σ H D I h => ?_⟩
  refine plainObj_wpAny_Assign_Attribute (thn (hv.run pins s σ H _ I h) fun u s1 ⟨y, H1, I1, ry, q⟩ => thn (ha.run pins s1 σ H1 _ I1 q) fun ov s2 ⟨x, H2, I2, rx, q2⟩ => ?_) hs
  cases x <;> try exact q2.elim
  cases rx
  rcases q2.ex with ⟨C, dx, p, vs, i, hsl, c, t, q2⟩ | ⟨C, dx, fs, ea, c, n, l, q2⟩
  · exact SlX.setslot_ok I2 hsl c t ry fun s3 I3 => ⟨σ, _, I3, q2⟩
  · exact setattr_ok I2 ea c n l ry fun s3 I3 => ⟨σ, _, I3, q2⟩
/-! ### new instances -/
structure NewI (K : Frag) (H : Hp) (c : Str) (k : Addr → Hp → Prop) : Prop where
  go : ∀ x dx, H x = none → H dx = none → dx ≠ x → k x (upd (upd H dx (.own x)) x (.ins (He.ga K c) dx []))
def dMake (K : Frag) (c : Str) (sp : Sp) (E : L2.St → XK) (t : TA) : TE := fun σ H Q => t σ H fun vs H1 => NewI K H1 c fun x H2 => sp (.ref x :: vs) H2 (fun v H3 => v = .non ∧ Q (.ref x) H3) (E σ)
section
variable {X : Cx} {k : Nat} {g : Addr} {sp : Sp} {E : L2.St → XK} {x c m : Str} {p pos apos : Pos} {e o : Expr} {es : List Expr} {t : TA} {ta : TE}
theorem run_mk {pins : List (Addr × Obj)} {σ : L2.St} {H : Hp} {s : Shared} {Q : VK} {us : List Value} {vs : List V} (M : Mk X.K (He.ga X.K c) g) (F : FnR X.prog X.w X.K X.mg X.base (L2.CX X.prog X.w) k g sp) (hr : Room (k + 1) X.A) (hx : PassesAt (L2.CX X.prog X.w) X σ (E σ))
    (I : Inv X pins σ H s) (r : Vals vs us) (h : NewI X.K H c fun x H2 => sp (.ref x :: vs) H2 (fun v H3 => v = .non ∧ Q (.ref x) H3) (E σ)) : wpAny (model X.prog X.w) X.A (call (.ref (He.ga X.K c)) us) (EP X pins σ Q) X.xe s := by
  have hq := h.go (s.heap.objs.size + 1) s.heap.objs.size (I.hok.fresh (Nat.le_succ _)) (I.hok.fresh (Nat.le_refl _)) (Nat.ne_of_lt (Nat.lt_succ_self _))
  have I2 := Inv.made (C := He.ga X.K c) I
  have r2 : Vals (V.ref (s.heap.objs.size + 1) :: vs) (Value.ref (s.heap.objs.size + 1) :: us) := .cons rfl r
  refine wpAny_call (make_map (f := g) I.kIn M.makes M.init (beq_iff_eq.mp M.fn) (codeAny_mono (F _ X.stack _ _ (Value.ref (s.heap.objs.size + 1) :: us) _ _ (E σ) (hr.make (He.ga X.K c) us []) (I2.env0.make (He.ga X.K c) us []) r2 hq) fun r s' hq' => ?_))
  cases r with
  | error e => exact hx pins _ _ e s' I2 hq'
  | ok fl =>
    cases fl with
    | ret u =>
      obtain ⟨v, H', I3, rv, ev, q3⟩ := I2.after hq'
      subst ev
      exact ⟨rv, ⟨V.ref (s.heap.objs.size + 1), H', I3, rfl, q3⟩⟩
    | next => exact False.elim hq'
    | brk => exact False.elim hq'
    | cont => exact False.elim hq'
theorem pe_mk (M : Mk X.K (He.ga X.K c) g) (F : FnR X.prog X.w X.K X.mg X.base (L2.CX X.prog X.w) k g sp) (hr : Room (k + 1) X.A) (hm : X.mg c = some (.ref (He.ga X.K c))) (hx : ∀ σ, PassesAt (L2.CX X.prog X.w) X σ (E σ))
    (ha : PA X (e :: es) t) (hg : Gl X c := by rfl) (hdb : (c == ("__debug__" : Str)) = false := by decide) (he : starEach (e :: es) X.env = (false, eval e X.env) :: starEach es X.env := by rfl) (hpl : (backTo pos (starEach es X.env)).any (·.1) = false := by rfl) :
    PE X (.Call (.Name c p) (e :: es) [] pos) (dMake X.K c sp E t) := by
  refine ⟨fun pins s σ H Q I h => ?_⟩
  refine wpAny_Call_Name_kw (ld_glob I hg hm ?_ hdb)
  refine PySem.W.callWith_K (h₀ := X.base) I.ok.mod.kin M.kp (thn (ha.run pos pins s σ H _ I h) fun us s1 ⟨vs, H1, I1, r, q⟩ => ⟨I1.kIn, ?_⟩) he hpl
  exact run_mk M F hr (hx σ) I1 r q
/-! ### methods of instances with slots -/
structure IsO (K : Frag) (H : Hp) (c : Str) (a : Addr) (q : Prop) : Prop where
  ex : ∃ dx vs, SlX.Slt H a (He.ga K c) dx vs
  q : q
theorem IsO.of {K : Frag} {H : Hp} {c : Str} {a dx : Addr} {q : Prop} {vs : List (Option V)} (h : SlX.Slt H a (He.ga K c) dx vs) (h2 : q) : IsO K H c a q := ⟨⟨dx, vs, h⟩, h2⟩
def dMeth (K : Frag) (c : Str) (sp : Sp) (E : L2.St → XK) (ta : TE) (t : TA) : TE := fun σ H Q => ta σ H fun x H1 => match x with
  | .ref a => IsO K H1 c a (t σ H1 fun ws H2 => sp (.ref a :: ws) H2 Q (E σ))
  | _ => False
theorem pe_meth {pl : Sem Bool} (hc : SlX.SCls X.K (He.ga X.K c)) (hm : Meth X.K (He.ga X.K c) m g) (F : FnR X.prog X.w X.K X.mg X.base (L2.CX X.prog X.w) k g sp) (hr : Room k X.A) (hx : ∀ σ, PassesAt (L2.CX X.prog X.w) X σ (E σ)) (he : PE X o ta) (ha : PA X (e :: es) t)
    (hst : starEach (e :: es) X.env = (false, eval e X.env) :: starEach es X.env := by rfl) (hpl : (backTo pos (starEach es X.env)).any (·.1) = false := by rfl)
    (ht : eval (.Call (.Attribute o m apos) (e :: es) [] pos) X.env = (do
      let ov ← eval o X.env
      standAt apos.atName
      let (f, first) ← holding [ov] (getMethod ov m pl)
      callWith pos f first (backTo pos (starEach (e :: es) X.env)) (backToKw pos (keywordEach [] X.env))) := by rfl) :
    PE X (.Call (.Attribute o m apos) (e :: es) [] pos) (dMeth X.K c sp E ta t) := by
  refine ⟨fun pins s σ H Q I h => ?_⟩
  refine PySem.W.methodCall_KW (pl := pl) (thn (he.run pins s σ H _ I h) fun u s1 ⟨x, H1, I1, rx, q⟩ => ?_) ht
  cases x <;> try exact q.elim
  cases rx
  obtain ⟨⟨dx, vs, hsl⟩, q⟩ := q
  refine SlX.getmethsl_ok I1 hsl hc hm ?_
  refine PySem.W.callWith_K (first := [.ref _]) (h₀ := X.base) I.ok.mod.kin hm.kp (thn (ha.run pos pins s1 σ H1 _ I1 q) fun us s2 ⟨ws, H2, I2, r, q2⟩ => ⟨I2.kIn, ?_⟩) hst hpl
  exact run_R (us := .ref _ :: us) (vs := .ref _ :: ws) F hr (hx σ) I2 (.cons rfl r) q2
theorem pe_meth0 {pl : Sem Bool} (hc : SlX.SCls X.K (He.ga X.K c)) (hm : Meth X.K (He.ga X.K c) m g) (F : FnR X.prog X.w X.K X.mg X.base (L2.CX X.prog X.w) k g sp) (hr : Room k X.A) (hx : ∀ σ, PassesAt (L2.CX X.prog X.w) X σ (E σ)) (he : PE X o ta)
    (ht : eval (.Call (.Attribute o m apos) [] [] pos) X.env = (do
      let ov ← eval o X.env
      standAt apos.atName
      let (f, first) ← holding [ov] (getMethod ov m pl)
      callWith pos f first (backTo pos (starEach [] X.env)) (backToKw pos (keywordEach [] X.env))) := by rfl) :
    PE X (.Call (.Attribute o m apos) [] [] pos) (dMeth X.K c sp E ta tNil) := by
  refine ⟨fun pins s σ H Q I h => ?_⟩
  refine PySem.W.methodCall_KW (pl := pl) (thn (he.run pins s σ H _ I h) fun u s1 ⟨x, H1, I1, rx, q⟩ => ?_) ht
  cases x <;> try exact q.elim
  cases rx
  obtain ⟨⟨dx, vs, hsl⟩, q⟩ := q
  refine SlX.getmethsl_ok I1 hsl hc hm ?_
  exact PySem.W.callWith_K0 (first := [.ref _]) I1.kIn hm.kp (run_R (us := [.ref _]) (vs := [.ref _]) F hr (hx σ) I1 (.cons rfl .nil) q)
/-- x in o, o an instance whose class has its own __contains__ -/
def oInO (K : Frag) (c : Str) (sp : Sp) (E : XK) : R2 := fun x y H Q => match y with
  | .ref a => IsO K H c a (sp [.ref a, x] H (isB fun b H' => Q (.bl b) H') E)
  | _ => False
theorem op_inO {E : XK} (hm : Meth X.K (He.ga X.K c) "__contains__" g) (F : FnR X.prog X.w X.K X.mg X.base (L2.CX X.prog X.w) k g sp) (hr : Room k X.A) (hx : ∀ σ, PassesAt (L2.CX X.prog X.w) X σ E) : OpR X (compareOp .In) (oInO X.K c sp E) := by
  intro pins s σ H x y v u Q I rx ry q
  cases y <;> try exact q.elim
  cases ry
  obtain ⟨⟨dx, vs, hsl⟩, q⟩ := q
  obtain ⟨sl, od, _, J, _⟩ := SlX.slt_inst I hsl
  obtain ⟨m, hF⟩ := I.fr
  refine PySem.W.in_K hF I.ok.mod.kin J hm.at_ hm.fn ?_
  refine wpAny_mono (run_R (us := [.ref _, v]) (vs := [.ref _, x]) (E := fun _ => E) F hr (hx σ) I (.cons rfl (.cons rx .nil)) q) (fun w s' z => ?_) fun _ _ x => x
  obtain ⟨z', H', I', rz, qz⟩ := z
  obtain ⟨b, e, qz⟩ := isB_ex qz
  subst e
  cases rz
  exact wpAny_truthy_bool ⟨.bl b, H', I', rfl, qz⟩
/-- o.f, a property -/
structure PropF (K : Frag) (c f : Str) (g : Addr) : Prop where
  at_ : PySem.W.findIn K (.ref (He.ga K c)) f = some (some (.ref (He.ma K (He.ga K c) f)))
  get : PySem.W.specialIn K (.ref (He.ma K (He.ga K c) f)) "__get__" = some (some (.builtin "property.__get__"))
  tk : PySem.W.takesIn K (.ref (He.ma K (He.ga K c) f)) = some true
  rc : ∃ rest, PySem.W.recIn K (He.ma K (He.ga K c) f) "property" = some (.ref g :: rest)
def dProp (K : Frag) (c : Str) (sp : Sp) (ta : TE) : TE := fun σ H Q => ta σ H fun x H1 => match x with
  | .ref a => IsO K H1 c a (sp [.ref a] H1 Q E0)
  | _ => False
theorem pe_prop {f : Str} {n : Nat} (hc : SlX.SCls X.K (He.ga X.K c)) (pf : PropF X.K c f g) (F : FnR X.prog X.w X.K X.mg X.base (L2.CX X.prog X.w) n g sp) (hr : Room (n + 1) X.A) (he : PE X e ta)
    (hb : attributeBase e f X.env (eval e X.env) = eval e X.env := by rfl) : PE X (.Attribute e f pos) (dProp X.K c sp ta) := by
  refine ⟨fun pins s σ H Q I h => ?_⟩
  refine attr_of hb (thn (he.run pins s σ H _ I h) fun w s1 ⟨x, H1, I1, rx, q⟩ => ?_)
  cases x <;> try exact q.elim
  cases rx
  obtain ⟨⟨dx, vs, hsl⟩, q⟩ := q
  exact SlX.getprop_sl (CX := L2.CX X.prog X.w) (E := E0) I1 hsl hc pf.at_ pf.get pf.tk pf.rc F hr (fun _ _ _ _ h => by obtain ⟨_, _, _, _, _, _, _, _, _, _, _, _, z⟩ := h; exact z.elim) q
end
/-! ### raise, try -/
def WD (E : XK) : WX := fun c d _ H => E c d H
def WN : WX := fun _ _ _ _ => False
theorem takes_never {X : Cx} : Takes X WN := fun u s' h => by
  obtain ⟨_, _, _, _, _, _, _, _, _, _, _, _, _, _, _, _, z⟩ := h
  exact z.elim
theorem takesD {P : Program} {w : World} {K : Frag} {mg : Str → Option Value} {base : Heap} {N : List Str} {qual : Str} {scope : Scope} {f : Addr} {cd : Value} {A : Around} {outer : List Env} {s : Shared} {H : Hp} {E : XK} :
    Takes (cxD P w K mg base N qual scope f cd A outer s H E) (WD E) := takes_of rfl rfl rfl rfl
theorem takesL {X : Cx} : Takes X (WD E0) := fun u s' h => by
  obtain ⟨_, _, _, _, _, _, _, _, _, _, _, _, _, _, _, _, z⟩ := h
  exact z.elim
def dRaise (K : Frag) (x : Str) (W : WX) : TS := fun _ σ H => W (.ref (He.ga K x)) none σ H
theorem ps_rs {X : Cx} {x m : Str} {j : Nat} {p p2 pos pos' : Pos} {W : WX} (tk : Takes X W) (r : RsF X.K x) (gC : X.mg x = some (.ref (He.ga X.K x))) (hc : X.calm = true := by rfl) (hg : Gl X x := by rfl) (hdb : (x == ("__debug__" : Str)) = false := by decide) :
    PS X (.Raise (some (.Call (.Name x p) [.Constant (.str m) j p2] [] pos)) none pos') (dRaise X.K x W) := ps_raise hc tk (pmk_own PySem.F.excBase_ValueError r.q gC r.kp (raises_own r.sub r.ty) hg hdb)
theorem hdl_yes {K : Frag} {cls c : Value} {i : Nat} {ts : Addr → Value → Option Addr → TS} {Wout : WX} {D : Ends} {d : Option Addr} {σ : L2.St} {H : Hp} (h : PySem.W.exmOne K cls c = some true)
    (q : ∀ a, H a = none → ts a cls d { nx := fun σ' H' => D.nx (σ'.set i none) H', rt := D.rt, bk := fun σ' H' => D.bk (σ'.set i none) H', ct := fun σ' H' => D.ct (σ'.set i none) H' } (σ.set i (some (.ref a))) H) : wAs K c i ts Wout D cls d σ H :=
  ⟨true, h, fun _ => q, fun z => nomatch z⟩
theorem hdl_no {K : Frag} {cls c : Value} {i : Nat} {ts : Addr → Value → Option Addr → TS} {Wout : WX} {D : Ends} {d : Option Addr} {σ : L2.St} {H : Hp} (h : PySem.W.exmOne K cls c = some false) (q : Wout cls d σ H) : wAs K c i ts Wout D cls d σ H :=
  ⟨false, h, (fun z => nomatch z), fun _ => q⟩
def dTry (K : Frag) (c : Str) (i : Nat) (tb : WX → TS) (ts : Addr → Value → Option Addr → TS) (Wout : WX) : TS := fun D σ H => tb (wAs K (.ref (He.ga K c)) i ts Wout D) D σ H
theorem ps_try {X : Cx} {c n : Str} {i : Nat} {body suite : List Stmt} {b₀ : Stmt} {np pos pos' : Pos} {tb : WX → TS} {ts : Addr → Value → Option Addr → TS} {Wout : WX} (hN : X.N.Nodup) (gc : X.mg c = some (.ref (He.ga X.K c))) (tk : Takes X Wout)
    (hb : ∀ (W : WX) (pn : List (Addr × Obj)) (xe : Value → Shared → Prop), Takes (X.tr pn xe) W → PassesOwn (model X.prog X.w) X.A X.env xe → PSs (X.tr pn xe) body (tb W))
    (hsu : ∀ (a : Addr) (oe : Obj) (cls : Value) (d : Option Addr) (pn : List (Addr × Obj)), Zc cls d oe → (∃ vs, oe.data = .fields vs) → PSs (X.suite a ((a, oe) :: pn)) (b₀ :: suite) (ts a cls d))
    (hs : X.stack = X.env :: X.outer := by rfl) (hf : X.env.frame = some X.env.locals := by rfl) (hi : X.N[i]? = some n := by rfl) (hln : X.env.kindOf n = some .local := by rfl) (hg : Gl X c := by rfl) (hdb : (c == ("__debug__" : Str)) = false := by decide) :
    PS X (.Try body [.ExceptHandler (some (.Name c np)) (some n) (b₀ :: suite) pos'] [] [] pos) (dTry X.K c i tb ts Wout) := ps_try_as hs hf hN hi hln ⟨hg, hdb, .inl gc⟩ tk hb hsu
/-- isinstance(e, c), e the exception of the suite -/
structure IsE (K : Frag) (H : Hp) (a : Addr) (cls : Value) (d : Option Addr) (p : Addr) (u : Value) (k : Bool → Prop) : Prop where
  ex : ∃ D b, p = a ∧ cls = .ref D ∧ L2.ExcC K D ∧ (∀ dx, d = some dx → ∃ o, H dx = some o) ∧ PySem.W.kitOne K (.ref D) u = some b ∧ k b
theorem IsE.of {K : Frag} {H : Hp} {a D : Addr} {u : Value} {k : Bool → Prop} {b : Bool} (h : L2.ExcC K D) (e : PySem.W.kitOne K (.ref D) u = some b) (q : k b) : IsE K H a (.ref D) none a u k := ⟨D, b, rfl, rfl, h, (fun _ z => nomatch z), e, q⟩
theorem IsE.ofd {K : Frag} {H : Hp} {a D dx : Addr} {o : HO} {u : Value} {k : Bool → Prop} {b : Bool} (h : L2.ExcC K D) (hd : H dx = some o) (e : PySem.W.kitOne K (.ref D) u = some b) (q : k b) : IsE K H a (.ref D) (some dx) a u k := ⟨D, b, rfl, rfl, h, (fun _ z => by cases z; exact ⟨o, hd⟩), e, q⟩
def cIsE (K : Frag) (a : Addr) (cls : Value) (d : Option Addr) : List V → Hp → VK → Prop := fun xs H Q => match xs with
  | [.ref p, .ty n] => IsE K H a cls d p (.type n) fun b => Q (.bl b) H
  | [.ref p, .ref C] => IsE K H a cls d p (.ref C) fun b => Q (.bl b) H
  | _ => False
theorem ise_call {X : Cx} {a : Addr} {cls : Value} {d : Option Addr} {oe : Obj} {pn pins : List (Addr × Obj)} {σ : L2.St} {H : Hp} {s : Shared} {p : Addr} {c : V} {cv : Value} {us : List Value} {Q : VK} (hz : Zc cls d oe) (hf : ∃ vs, oe.data = .fields vs) (I : Inv (X.suite a ((a, oe) :: pn)) pins σ H s) (r : Vals [.ref p, c] us)
    (hc : ∀ u, RelV c u → u = cv) (h : IsE X.K H a cls d p cv fun b => Q (.bl b) H) : wpAny (model X.prog X.w) (X.suite a ((a, oe) :: pn)).A (call (.builtin "isinstance") us) (EP (X.suite a ((a, oe) :: pn)) pins σ Q) (X.suite a ((a, oe) :: pn)).xe s := by
  obtain ⟨D, b, e1, e2, hD, hd, hk, q⟩ := h
  subst e1 e2
  cases r with
  | cons rx rr =>
    cases rr with
    | cons rt rr =>
      cases rr
      cases rx
      have ec := hc _ rt
      subst ec
      obtain ⟨hget, _⟩ := I.pin (p, oe) (List.mem_append.mpr (.inl List.mem_cons_self))
      obtain ⟨vs, hv⟩ := hf
      have hcl : (PySem.W.clsIn X.K D).isSome = true := by
        obtain ⟨cd, hc, _⟩ := PySem.W.any_some hD.hd
        rw [hc]; rfl
      have J : ∃ od, PySem.W.InstAt s.heap p oe D od := by
        obtain ⟨oc, od, oda, osl⟩ := oe
        obtain ⟨h1, h2⟩ := hz
        dsimp only at h1 h2 hv
        subst h1 h2 hv
        cases od with
        | none => exact ⟨none, hget, rfl, rfl, trivial⟩
        | some dx =>
          obtain ⟨o, ho⟩ := hd dx rfl
          obtain ⟨oo, hoo⟩ := objOk_get (I.hok dx o ho)
          exact ⟨some oo, hget, rfl, rfl, hoo⟩
      obtain ⟨od, J⟩ := J
      exact PySem.W.kia_one (PySem.W.kitx_exc hcl hD.hg hD.hk hD.hs hD.ha hD.hn hD.ht hD.hm) I.kIn J hk (fun z => nomatch z) fun tk => ⟨.bl b, H, I.kept (t' := tk) fun _ _ z => z, rfl, q⟩
theorem c_ise {X : Cx} {a : Addr} {cls : Value} {d : Option Addr} {oe : Obj} {pn : List (Addr × Obj)} (hz : Zc cls d oe) (hf : ∃ vs, oe.data = .fields vs) : CallR (X.suite a ((a, oe) :: pn)) (.builtin "isinstance") (cIsE X.K a cls d) := by
  intro pins s σ H xs us Q I r h
  match xs, h with
  | [.ref p, .ty n], h => exact ise_call hz hf I r (fun u z => z) h
  | [.ref p, .ref C], h => exact ise_call hz hf I r (fun u z => z) h
/-! ### defaults -/
def EmpT (K : Frag) (v : V) : Prop := ∃ a, v = .ref a ∧ ∀ H, SqT K H a []
def empA (K : Frag) (a : Addr) : Bool := match K.lookup a with
  | some ⟨.type c, _, .seq its _, _⟩ => decide (c = "tuple") && decide (its = #[])
  | _ => false
def empB (K : Frag) (v : V) : Bool := match v with
  | .ref a => empA K a
  | _ => false
theorem empB_ok {K : Frag} {v : V} (h : empB K v = true) : EmpT K v := by
  cases v with
  | ref a =>
    refine ⟨a, rfl, fun H => ?_⟩
    have h : empA K a = true := h
    unfold empA at h
    split at h
    · rename_i c od its n osl q
      obtain ⟨h1, h2⟩ := He.ba h
      have e : its = #[] := of_decide_eq_true h2
      subst e
      exact .inr ⟨_, #[], n, q, congrArg Value.type (of_decide_eq_true h1), rfl, by simp, .nil⟩
    · cases h
  | _ => cases h
def spD (sp : Sp) (dvs : List V) : Sp := fun vs H Q E => sp (vs ++ dvs) H Q E
theorem mk_fnD {P : Program} {w : World} {K : Frag} {mg : Str → Option Value} {base : Heap} {x qual : Str} {params : Arguments} {body : List Stmt} {scope : Scope} {f : Addr} {fd : FuncData} {N ps : List Str} {k : Nat} {sp : Sp} {dvs ex : List V} {kws : List (Str × V)} (F : FunD K x qual params body scope dvs kws f fd) (S : FnScope N ps scope)
    (len : ∀ vs H Q E, sp vs H Q E → vs.length = ps.length) (hb : ∃ ds, Vals ex ds ∧ Binds K fd ps ds) {t : XK → TS}
    (hbody : ∀ (cdv : Value) (A : Around) (outer : List Env) (s : Shared) (H : Hp) (E : XK), Room k (A.deeper (envOfC qual scope s.heap.objs.size f cdv)) →
      PSs (cxD P w K mg base N qual scope f cdv A outer s H E) body (t E))
    (pure : ∀ vs H Q E, sp vs H Q E → t E { nx := fun _ H' => Q .non H', rt := Q } (start N vs) H) : FR P w K mg base (k + 1) f (spD sp ex) := by
  obtain ⟨ds, hv, hb⟩ := hb
  exact (FunD.ok (P := P) (w := w) (mg := mg) (base := base) (CX := L2.CX P w) (sp := sp) F S len fun cdv A outer s H vs Q E hr h => ⟨t E, hbody cdv A outer s H E hr, pure vs H Q E h⟩).raw hb hv
theorem spD_nil {P : Program} {w : World} {K : Frag} {mg : Str → Option Value} {base : Heap} {f : Addr} {k : Nat} {sp : Sp} (F : FR P w K mg base k f (spD sp [])) : FR P w K mg base k f sp :=
  FnR.imp F fun vs H Q E h => by show sp (vs ++ []) H Q E; rw [List.append_nil]; exact h
/-! ### functions behind wrappers -/
def uA (K : Frag) (c m : Str) : Addr := match PySem.W.recIn K (He.ma K (He.ga K c) m) "property" with
  | some (.ref g :: _) => g
  | _ => (match PySem.W.recIn K (He.ma K (He.ga K c) m) "staticmethod" with
    | some (.ref g :: _) => g
    | _ => 0)
def propB (c f : Str) (K : Frag) : Bool := He.eqO (PySem.W.findIn K (.ref (He.ga K c)) f) (some (some (.ref (He.ma K (He.ga K c) f)))) && (He.eqO (PySem.W.specialIn K (.ref (He.ma K (He.ga K c) f)) "__get__") (some (some (.builtin "property.__get__"))) &&
  (decide (PySem.W.takesIn K (.ref (He.ma K (He.ga K c) f)) = some true) && (match PySem.W.recIn K (He.ma K (He.ga K c) f) "property" with
    | some (.ref g :: _) => decide (g = uA K c f)
    | _ => false)))
theorem propB_ok {K : Frag} {c f : Str} (h : propB c f K = true) : PropF K c f (uA K c f) := by
  obtain ⟨h1, h⟩ := He.ba h
  obtain ⟨h2, h⟩ := He.ba h
  obtain ⟨h3, h4⟩ := He.ba h
  refine ⟨He.eqO_ok h1, He.eqO_ok h2, of_decide_eq_true h3, ?_⟩
  split at h4
  · rename_i g r e
    rw [of_decide_eq_true h4] at e
    exact ⟨r, e⟩
  · cases h4
/-! ### defs by their addresses -/
structure DfX where
  ad : Frag → Addr
  name : Str
  qual : Str
  params : Arguments
  body : List Stmt
  scope : Scope
  dfl : List He.Dv := []
  kwd : List (Str × He.Dv) := []
  clo : List Str := []
def fnX (K : Frag) (a : Addr) : He.FnW := match K.lookup a with
  | some ⟨_, _, .func fd, _⟩ => some (fd.name, fd.qualname, fd.params, fd.body, fd.scope, fd.globals, fd.closure.map (fun c => (c.1, (0 : Addr))), fd.builtins)
  | _ => none
def DfX.val (d : DfX) : He.FnW := some (d.name, d.qual, d.params, .stmts d.body, d.scope, mainGlobals, d.clo.map (fun n => (n, (0 : Addr))), builtinsNs)
def DfX.dvs (K : Frag) (d : DfX) : List V := d.dfl.map (He.Dv.v K)
def DfX.kws (K : Frag) (d : DfX) : List (Str × V) := d.kwd.map fun q => (q.1, q.2.v K)
def DfX.ok (K : Frag) (d : DfX) : Bool := PySem.W.keepIn K (.ref (d.ad K)) && (match K.lookup (d.ad K) with
  | some ⟨_, _, .func fd, _⟩ => PySem.W.codeIn K fd.code d.qual && (He.dflB K fd.defaults (d.dvs K) && He.kwdB K fd.kwdefaults (d.kws K))
  | _ => false)
theorem DfX.funD {K : Frag} {d : DfX} (hclo : d.clo = []) (e : fnX K (d.ad K) = d.val) (c : d.ok K = true) : ∃ fd, FunD K d.name d.qual d.params d.body d.scope (d.dvs K) (d.kws K) (d.ad K) fd := by
  obtain ⟨kp, c2⟩ := He.ba c
  unfold fnX at e
  split at e
  · rename_i oc od fd osl q
    rw [q] at c2
    obtain ⟨k1, k2⟩ := He.ba c2
    obtain ⟨k3, k4⟩ := He.ba k2
    obtain ⟨n1, n2, n3, n4, n5, n6, n7, n8, n9, n10, n11, n12, n13, n14, n15⟩ := fd
    unfold DfX.val at e
    rw [hclo] at e
    simp only [Option.some.injEq, Prod.mk.injEq, List.map_nil, List.map_eq_nil_iff] at e
    obtain ⟨h1, h2, h3, h4, h5, h6, h7, h8⟩ := e
    subst h1 h2 h3 h4 h5 h6 h7 h8
    exact ⟨_, ⟨oc, od, n8, n9, n10, n11, n12, n13, n14, osl, rfl, q, k1, He.dflB_ok k3, He.kwdB_ok k4⟩, kp⟩
  · cases e
/-! ### the hook -/
abbrev AlX : Type := Bool × List He.FnW
def obsK (fa : List He.Fa) (fx : List (Frag → Bool)) (fn : List DfX) (K : Frag) : AlX := ((fa.all fun f => f.ok K) && ((fx.all fun f => f K) && fn.all fun d => d.ok K), fn.map fun d => fnX K (d.ad K))
def valX (fn : List DfX) : AlX := (true, fn.map DfX.val)
def SaysX (fa : List He.Fa) (fx : List (Frag → Bool)) (fn : List DfX) (K : Frag) : Prop := obsK fa fx fn K = valX fn
/-- what the names reach in n steps, the statics, the cells of closures -/
def asX (g : Addr → Option Obj) (n : Nat) : List Addr := let l := He.asD g n ++ [cStatics]
  l ++ l.flatMap fun a => match g a with
    | some ⟨_, _, .func fd, _⟩ => fd.closure.map (·.2)
    | _ => []
def obsXG (n : Nat) (fa : List He.Fa) (fx : List (Frag → Bool)) (fn : List DfX) (g : Addr → Option Obj) : AlX := obsK fa fx fn (He.frG g (asX g n))
def hookX (n : Nat) (fa : List He.Fa) (fx : List (Frag → Bool)) (fn : List DfX) : PySem.W.Hook where
  α := AlX
  obs := fun s => obsXG n fa fx fn s.heap.get?
  val := fun _ => valX fn
  says := fun _ h => ∃ K : Frag, K.In h ∧ SaysX fa fx fn K
  of := fun _ _ e => ⟨_, He.frG_in, e⟩
  keeps := fun _ _ _ ⟨K, hK, c⟩ k => ⟨K, PySem.W.Frag.In.keeps hK k, c⟩
theorem obsXG_eq {n : Nat} {fa : List He.Fa} {fx : List (Frag → Bool)} {fn : List DfX} {g : Addr → Option Obj} {s : Shared} (h : ∀ a, g a = s.heap.get? a) : obsXG n fa fx fn g = (hookX n fa fx fn).obs s := by
  have e : g = s.heap.get? := funext h
  rw [e] <;> rfl
section
variable {fa : List He.Fa} {fx : List (Frag → Bool)} {fn : List DfX} {K : Frag}
theorem SaysX.fst (c : SaysX fa fx fn K) : (fa.all fun f => f.ok K) = true ∧ (fx.all fun f => f K) = true ∧ (fn.all fun d => d.ok K) = true := by
  have z : ((fa.all fun f => f.ok K) && ((fx.all fun f => f K) && fn.all fun d => d.ok K)) = true := congrArg (fun z : AlX => z.1) c
  obtain ⟨a, b⟩ := He.ba z
  exact ⟨a, He.ba b⟩
theorem SaysX.fact (c : SaysX fa fx fn K) (i : Nat) {f : He.Fa} (h : fa[i]? = some f := by rfl) : f.ok K = true := List.all_eq_true.mp c.fst.1 f (List.mem_of_getElem? h)
theorem SaysX.more (c : SaysX fa fx fn K) (i : Nat) {f : Frag → Bool} (h : fx[i]? = some f := by rfl) : f K = true := List.all_eq_true.mp c.fst.2.1 f (List.mem_of_getElem? h)
theorem SaysX.fnv (c : SaysX fa fx fn K) (i : Nat) {d : DfX} (h : fn[i]? = some d := by rfl) : fnX K (d.ad K) = d.val := by
  have e : fn.map (fun d => fnX K (d.ad K)) = fn.map DfX.val := congrArg (fun z : AlX => z.2) c
  have e2 : (fn.map fun d => fnX K (d.ad K))[i]? = (fn.map DfX.val)[i]? := by rw [e]
  rw [List.getElem?_map, List.getElem?_map, h] at e2
  exact Option.some.inj e2
theorem SaysX.def_ (c : SaysX fa fx fn K) (i : Nat) {d : DfX} (h : fn[i]? = some d := by rfl) (hclo : d.clo = [] := by rfl) : ∃ fd, FunD K d.name d.qual d.params d.body d.scope (d.dvs K) (d.kws K) (d.ad K) fd := by
  have e : fn.map (fun d => fnX K (d.ad K)) = fn.map DfX.val := congrArg (fun z : AlX => z.2) c
  have e2 : (fn.map fun d => fnX K (d.ad K))[i]? = (fn.map DfX.val)[i]? := by rw [e]
  rw [List.getElem?_map, List.getElem?_map, h] at e2
  exact DfX.funD hclo (Option.some.inj e2) (List.all_eq_true.mp c.fst.2.2 d (List.mem_of_getElem? h))
end
end S
namespace S
open PySem PySem.Spec PyProof.Rows L2
/-! ### bool(x): by its truth -/
theorem isType_bool : isType (.type "bool") = (pure true : Sem Bool) := by first | rfl | kernel_rfl
theorem bool_tr {prog : Program} {w : World} {A : Around} {E : Value → Shared → Prop} {s : Shared} {x : Value} {Q : Value → Shared → Prop} (h : wpAny (model prog w) A.in1.in1 (truthy x) (fun b s' => Q (.bool b) s') E s) : wpAny (model prog w) A (call (.type "bool") [x]) Q E s := by
  refine callType_codes (T := "bool") (Bi := Builtin.«object.__init__») (Q₁ := fun r s₁ => ∃ b, r = Value.bool b ∧ Q r s₁) PySem.F.called_bool (PySem.F.typeCall_bool_1 _) PySem.F.entry_object_init ?_ ?_
  · refine codeAny_of_tree ?_
    show wpAny _ A.in1.in1 (do checkBuiltinCall "bool.__new__" ⟨[.type "bool", x], []⟩; again (.builtin "bool.__new__" ⟨[.type "bool", x], []⟩)) _ _ s
    refine wpAny_bind (wpAny_of_eq (PySem.F.newCall_bool_1 _) (wpAny_pure ⟨plainId_quiet (by decide +kernel) _, codeAny_builtin PySem.F.entry_bool_new ?_⟩))
    rw [Around.under_plainId (by decide +kernel) _]
    unfold Builtin.«bool.__new__»
    refine wpAny_bind (wpAny_of_eq (a := true) isType_bool ?_)
    refine PySem.W.KFB.if_not rfl ?_
    refine wpAny_bind (wpAny_of_eq (a := true) PySem.F.conv_sub_bool ?_)
    refine PySem.W.KFB.if_not rfl ?_
    refine wpAny_bind (wpAny_of_eq (a := [x]) (by first | rfl | kernel_rfl) ?_)
    refine wpAny_bind (wpAny_mono h (fun b s₁ hb => ?_) fun _ _ y => y)
    exact wpAny_pure ⟨b, rfl, hb⟩
  · rintro obj s₁ ⟨b, rfl, hq⟩
    exact ⟨PySem.typeIs_bool _ _, PySem.F.args_object_init_2 _ _, object_init_meets PySem.F.called_bool.init.lookup PySem.F.called_bool.made (by decide) prog w A.in1 _ s₁ ⟨PySem.typeIs_bool _ _, rfl, hq⟩⟩
def cBool (K : Frag) : List V → Hp → VK → Prop := fun xs H Q => match xs with
  | [.int i] => Q (.bl (decide (i ≠ 0))) H
  | [.bl b] => Q (.bl b) H
  | [.ref p] => Rd K H p fun ys => Q (.bl (decide (ys ≠ []))) H
  | _ => False
theorem c_bool {X : Cx} : CallR X (.type "bool") (cBool X.K) := by
  intro pins s σ H xs us Q I r h
  have hl := line63
  match xs, h with
  | [.int i], h =>
    obtain ⟨u, rfl, ⟨t, rfl⟩⟩ := r.one
    refine bool_tr (PySem.P.truthy_int ⟨.bl (i != 0), H, I, rfl, ?_⟩)
    have e : (i != 0) = decide (i ≠ 0) := by by_cases h : i = 0 <;> simp [h]
    rw [e]; exact h
  | [.bl b], h =>
    obtain ⟨u, rfl, rfl⟩ := r.one
    exact bool_tr (wpAny_truthy_bool ⟨.bl b, H, I, rfl, h⟩)
  | [.ref p], ⟨⟨ys, hx, h⟩⟩ =>
    obtain ⟨u, rfl, rfl⟩ := r.one
    have e : (!ys.isEmpty) = decide (ys ≠ []) := by cases ys <;> simp
    rcases hx with hx | hx
    · obtain ⟨its, rv, pl, hz⟩ := I.list hx
      have hlen := rv.length
      exact bool_tr (wpAny_truthy_list pl.isList (by simp only [List.size_toArray]; omega) ⟨.bl (!ys.isEmpty), H, I.tok _, by rw [isEmpty_of rv]; rfl, by rw [e]; exact h⟩)
    · obtain ⟨its, rv, pl, hz⟩ := I.tuple hx
      have hlen := rv.length
      exact bool_tr (truthy_tuple pl (by simp only [List.size_toArray]; omega) ⟨.bl (!ys.isEmpty), H, I.tok _, by rw [isEmpty_of rv]; rfl, by rw [e]; exact h⟩)
section
variable {X : Cx} {k : Nat} {g : Addr} {sp : Sp} {E : XK} {c m : Str} {ups : List Str} {tys : List String}
/-- the class's own def, called for an operator -/
theorem run_op {A : Around} {pins : List (Addr × Obj)} {σ : L2.St} {H : Hp} {s : Shared} {Q : VK} {us : List Value} {vs : List V} (F : FnR X.prog X.w X.K X.mg X.base (L2.CX X.prog X.w) k g sp) (hr : Room k A) (e0 : Env0 X.prog X.w X.K X.mg X.base A X.stack s H) (hx : ∀ σ, PassesAt (L2.CX X.prog X.w) X σ E)
    (I : Inv X pins σ H s) (r : Vals vs us) (h : sp vs H Q E) : wpAny (model X.prog X.w) A (call (.ref g) us) (EP X pins σ Q) X.xe s := by
  refine wpAny_call (codeAny_mono (F A X.stack s H us vs Q E hr e0 r h) fun r s' hq => ?_)
  cases r with
  | error e => exact hx σ pins H s e s' I hq
  | ok fl =>
    cases fl with
    | ret u => exact I.after hq
    | next => exact False.elim hq
    | brk => exact False.elim hq
    | cont => exact False.elim hq
/-- bool(x) of an instance with its own __bool__ -/
def cBoolO (K : Frag) (c : Str) (sp : Sp) (E : XK) : List V → Hp → VK → Prop := fun xs H Q => match xs with
  | [.ref p] => IsO K H c p (sp [.ref p] H (isB fun b H' => Q (.bl b) H') E)
  | _ => False
theorem c_boolO (hm : Meth X.K (He.ga X.K c) "__bool__" g) (F : FnR X.prog X.w X.K X.mg X.base (L2.CX X.prog X.w) k g sp) (hr : Room (k + 2) X.A) (hx : ∀ σ, PassesAt (L2.CX X.prog X.w) X σ E) : CallR X (.type "bool") (cBoolO X.K c sp E) := by
  intro pins s σ H xs us Q I r h
  match xs, h with
  | [.ref p], ⟨⟨dx, vs, hsl⟩, q⟩ =>
    obtain ⟨u, rfl, rfl⟩ := r.one
    obtain ⟨sl, od, _, J, _⟩ := SlX.slt_inst I hsl
    obtain ⟨m, hF⟩ := I.fr
    have hr2 : Room k X.A.in1.in1 := (show Room (k + 1) X.A.in1 from Room.in1 hr).in1
    refine bool_tr (PySem.W.truthy_K hF I.ok.mod.kin J hm.at_ hm.fn (wpAny_mono (run_op (us := [.ref p]) (vs := [.ref p]) F hr2 I.env0.in1.in1 hx I (.cons rfl .nil) q) (fun w s' z => ?_) fun _ _ x => x))
    obtain ⟨z', H', I', rz, qz⟩ := z
    obtain ⟨b, e, qz⟩ := isB_ex qz
    subst e
    cases rz
    exact ⟨.bl b, H', I', rfl, qz⟩
theorem mf_first (mf : MF X.K c ups tys) : PySem.W.selfFirst X.K (He.ga X.K c) = true := by
  obtain ⟨cd, e, _, hm⟩ := mf.cd
  unfold PySem.W.selfFirst
  rw [e, Option.any_some, hm]
  simp
/-- x op y, both instances of c, its own def; r: of other values -/
def oOwn (K : Frag) (c : Str) (sp : Sp) (E : XK) (r : R2) : R2 := fun x y H Q => match x, y with
  | .ref a, .ref b => IsO K H c a (IsO K H c b (sp [.ref a, .ref b] H Q E))
  | x, y => r x y H Q
theorem op_ownB {op : Operator} {r : R2} (mf : MF X.K c ups tys) (hm : Meth X.K (He.ga X.K c) (PySem.dunder op.info.2) g) (F : FnR X.prog X.w X.K X.mg X.base (L2.CX X.prog X.w) k g sp) (hr : Room k X.A) (hx : ∀ σ, PassesAt (L2.CX X.prog X.w) X σ E) (h0 : OpR X (binaryOp op) r) : OpR X (binaryOp op) (oOwn X.K c sp E r) := by
  intro pins s σ H x y v u Q I rx ry q
  have own : ∀ a b, x = .ref a → y = .ref b → IsO X.K H c a (IsO X.K H c b (sp [.ref a, .ref b] H Q E)) → wpAny (model X.prog X.w) X.A (binaryOp op v u) (EP X pins σ Q) X.xe s := by
    intro a b ex ey q
    subst ex ey
    cases rx
    cases ry
    obtain ⟨⟨dx, vs, hsl⟩, ⟨⟨dy, ws, hsl2⟩, q⟩⟩ := q
    obtain ⟨sl, od, _, J, _⟩ := SlX.slt_inst I hsl
    obtain ⟨sl', od', _, J', _⟩ := SlX.slt_inst I hsl2
    obtain ⟨m, hF⟩ := I.fr
    refine PySem.W.binop_K hF I.ok.mod.kin J J'.type (mf_first mf) hm.at_ hm.fn ?_
    refine wpAny_mono (run_op (us := [.ref a, .ref b]) (vs := [.ref a, .ref b]) F hr I.env0 hx I (.cons rfl (.cons rfl .nil)) q) (fun w s' z => ?_) fun _ _ x => x
    obtain ⟨z', H', I', rz, qz⟩ := z
    exact SlX.cmpback rz ⟨z', H', I', rz, qz⟩
  cases x <;> cases y <;> first | exact own _ _ rfl rfl q | exact h0 pins s σ H _ _ v u Q I rx ry q
/-- op x, an instance of c -/
def uOwn (K : Frag) (c : Str) (sp : Sp) (E : XK) : V → Hp → VK → Prop := fun x H Q => match x with
  | .ref a => IsO K H c a (sp [.ref a] H Q E)
  | _ => False
theorem u_inv (hm : Meth X.K (He.ga X.K c) "__invert__" g) (F : FnR X.prog X.w X.K X.mg X.base (L2.CX X.prog X.w) k g sp) (hr : Room k X.A) (hx : ∀ σ, PassesAt (L2.CX X.prog X.w) X σ E) : UnR X (unaryOp .Invert) (uOwn X.K c sp E) := by
  intro pins s σ H x v Q I rx q
  cases x <;> try exact q.elim
  cases rx
  obtain ⟨⟨dx, vs, hsl⟩, q⟩ := q
  obtain ⟨sl, od, _, J, _⟩ := SlX.slt_inst I hsl
  obtain ⟨m, hF⟩ := I.fr
  exact PySem.W.ksp_inv hF I.ok.mod.kin J hm.at_ hm.fn (run_op (us := [.ref _]) (vs := [.ref _]) F hr I.env0 hx I (.cons rfl .nil) q)
theorem u_negO (hm : Meth X.K (He.ga X.K c) "__neg__" g) (F : FnR X.prog X.w X.K X.mg X.base (L2.CX X.prog X.w) k g sp) (hr : Room k X.A) (hx : ∀ σ, PassesAt (L2.CX X.prog X.w) X σ E) : UnR X (unaryOp .USub) (uOwn X.K c sp E) := by
  intro pins s σ H x v Q I rx q
  cases x <;> try exact q.elim
  cases rx
  obtain ⟨⟨dx, vs, hsl⟩, q⟩ := q
  obtain ⟨sl, od, _, J, _⟩ := SlX.slt_inst I hsl
  obtain ⟨m, hF⟩ := I.fr
  exact PySem.W.ksp_neg hF I.ok.mod.kin J hm.at_ hm.fn (run_op (us := [.ref _]) (vs := [.ref _]) F hr I.env0 hx I (.cons rfl .nil) q)
/-- x == y: of instances of c by its own def; of data -/
structure EqOr (K : Frag) (c : Str) (H : Hp) (a b : Addr) (P : Prop) (k : Bool → Prop) : Prop where
  ex : (IsO K H c a (IsO K H c b P)) ∨ EqD K H (.ref a) (.ref b) k
theorem EqOr.own {K : Frag} {c : Str} {H : Hp} {a b dx dy : Addr} {P : Prop} {k : Bool → Prop} {vs ws : List (Option V)} (h : SlX.Slt H a (He.ga K c) dx vs) (h2 : SlX.Slt H b (He.ga K c) dy ws) (q : P) : EqOr K c H a b P k := ⟨.inl (.of h (.of h2 q))⟩
theorem EqOr.dat {K : Frag} {c : Str} {H : Hp} {a b : Addr} {P : Prop} {k : Bool → Prop} (h : EqD K H (.ref a) (.ref b) k) : EqOr K c H a b P k := ⟨.inr h⟩
def oEqO (K : Frag) (c : Str) (sp : Sp) (E : XK) : R2 := fun x y H Q => match x, y with
  | .ref a, .ref b => EqOr K c H a b (sp [.ref a, .ref b] H Q E) fun k => Q (.bl k) H
  | x, y => oEq K x y H Q
theorem op_eqO (hm : Meth X.K (He.ga X.K c) "__eq__" g) (F : FnR X.prog X.w X.K X.mg X.base (L2.CX X.prog X.w) k g sp) (hr : Room k X.A) (hx : ∀ σ, PassesAt (L2.CX X.prog X.w) X σ E) : OpR X (compareOp .Eq) (oEqO X.K c sp E) := by
  intro pins s σ H x y v u Q I rx ry q
  have own : ∀ a b, x = .ref a → y = .ref b → (IsO X.K H c a (IsO X.K H c b (sp [.ref a, .ref b] H Q E))) → wpAny (model X.prog X.w) X.A (compareOp .Eq v u) (EP X pins σ Q) X.xe s := by
    intro a b ex ey q1
    clear q
    subst ex ey
    cases rx
    cases ry
    obtain ⟨⟨dx, vs, hsl⟩, ⟨⟨dy, ws, hsl2⟩, q⟩⟩ := q1
    obtain ⟨sl, od, _, J, _⟩ := SlX.slt_inst I hsl
    obtain ⟨sl', od', _, J', _⟩ := SlX.slt_inst I hsl2
    obtain ⟨m, hF⟩ := I.fr
    show wpAny _ _ (richCompare .Eq (.ref a) (.ref b)) _ _ _
    refine PySem.W.cmp_K (op := .Eq) (tb := .ref (He.ga X.K c)) hr.units0 hF I.ok.mod.kin J J'.type (by unfold PySem.W.notFirst; simp) hm.at_ hm.fn ?_
    refine wpAny_mono (run_op (us := [.ref a, .ref b]) (vs := [.ref a, .ref b]) F hr I.env0 hx I (.cons rfl (.cons rfl .nil)) q) (fun w s' z => ?_) fun _ _ x => x
    obtain ⟨z', H', I', rz, qz⟩ := z
    exact SlX.cmpback rz ⟨z', H', I', rz, qz⟩
  have h0 : OpR X (compareOp .Eq) (oEq X.K) := o_eq hr.units
  cases x <;> cases y <;> first
    | (refine Or.elim (EqOr.ex q) (fun q1 => own _ _ rfl rfl q1) fun q1 => h0 pins s σ H _ _ v u Q I rx ry q1)
    | exact h0 pins s σ H _ _ v u Q I rx ry q
end
def oNo : R2 := fun _ _ _ _ => False
theorem o_no {X : Cx} {f : Value → Value → Sem Value} : OpR X f oNo := fun _ _ _ _ _ _ _ _ _ _ _ _ h => h.elim
/-! ### tuples of the module -/
def TupG (K : Frag) (x : Str) (vs : List V) : Prop := ∀ H, SqT K H (He.ga K x) vs
theorem tupG_ok {K : Frag} {x : Str} {vs : List He.Dv} (h : He.tupB K x vs = true) : TupG K x (vs.map (He.Dv.v K)) := fun H => He.tupB_ok h H
end S
namespace S
open PySem PySem.Spec PyProof.Rows L2
/-! ### enumerate over a tuple -/
set_option maxHeartbeats 4000000 in
theorem meets_enum1 {v : Value} {o : Obj} {H : Heap → Prop} (B : Begins v o H) :
    Meets (Builtin.«enumerate.__new__» ⟨[.type "enumerate", v], []⟩) (fun _ R s => H s.heap ∧
      R (.ok (.ret (.ref (s.heap.push o).objs.size))) { s with heap := (s.heap.push o).push { cls := .type "enumerate", data := .fields #[.none, .bool false, .ref s.heap.objs.size, rawInt 0, .none, .none] } }) :=
  .of_wp fun prog w A R s h => by
    obtain ⟨hp, g, d, tk, os⟩ := s; obtain ⟨h1, h⟩ := h
    have hsub := sub_enumerate
    have q1 : ∀ {A' : Around} {E : Value → Shared → Prop} {Q : Value → Shared → Prop}, Q (.ref hp.objs.size) ⟨hp.push o, g, d, tk, os⟩ → wpAny (model prog w) A' (pyIter v) Q E ⟨hp, g, d, tk, os⟩ :=
      fun q => B.iter prog w _ _ ⟨hp, g, d, tk, os⟩ _ h1 q
    wp_walk using q1
    refine wpAny_stack_any fun st => wpAny_pure ?_
    split
    · rename_i c _ _ _ _ _
      cases (c == Value.type "enumerate")
      · wp_walk using q1
        exact ⟨_, rfl, h⟩
      · wp_walk using q1
        exact ⟨_, rfl, h⟩
    · wp_walk using q1
      exact ⟨_, rfl, h⟩
theorem enum_begins1 {prog : Program} {w : World} {A : Around} {E : Value → Shared → Prop} {s : Shared} {v : Value} {o : Obj} {H : Heap → Prop} {Q : Value → Shared → Prop} (B : Begins v o H) (h1 : H s.heap)
    (h : ∀ h', IsEnum h' (s.heap.objs.size + 1) s.heap.objs.size 0 .none → h'.get? s.heap.objs.size = some o → h'.objs.size = s.heap.objs.size + 2 →
      (∀ b o, s.heap.get? b = some o → h'.get? b = some o) → Q (.ref (s.heap.objs.size + 1)) { s with heap := h' }) :
    wpAny (model prog w) A (call (.type "enumerate") [v]) Q E s := by
  refine callType_new F.called_enumerate (by decide) (F.typeCall_enumerate_1 _) (F.newCall_enumerate_1 _) (fun obj => F.args_object_init_2 obj _) F.entry_enumerate_new
    (meets_enum1 B) ⟨h1, ?_⟩
  have hz : (s.heap.push o).objs.size = s.heap.objs.size + 1 := Heap.size_push ..
  show _ ∧ _
  rw [hz]
  have he : IsEnum ((s.heap.push o).push { cls := .type "enumerate", data := .fields #[.none, .bool false, .ref s.heap.objs.size, rawInt 0, .none, .none] }) (s.heap.objs.size + 1) s.heap.objs.size 0 .none := by
    have := Heap.get?_push_size (s.heap.push o) (o := { cls := .type "enumerate", data := .fields #[.none, .bool false, .ref s.heap.objs.size, rawInt 0, .none, .none] }) rfl
    rw [hz] at this; exact this
  refine ⟨⟨_, he, rfl⟩, h _ he (Heap.get?_push_of_some _ (Heap.get?_push_size _ B.free)) (by rw [Heap.size_push, hz]) fun b o x => Heap.get?_push_of_some _ (Heap.get?_push_of_some _ x)⟩
/-- the tuple at a, each item in a new pair -/
def Iet (K : Frag) (a : Addr) : It :=
  ⟨fun i H => ∃ (xs : List V) (x : V), SqT K H a xs ∧ xs[i]? = some x, fun i H v H' => ∃ T x, v = .ref T ∧ H T = none ∧ H' = upd H T (.tup [.int (i : Nat), x]) ∧ ∀ xs, SqT K H a xs → xs[i]? = some x, fun i H => ∃ xs : List V, SqT K H a xs ∧ xs.length ≤ i⟩
theorem enum_endT {prog : Program} {w : World} {A : Around} {E : Value → Shared → Prop} {s : Shared} {e it l : Addr} {i : Nat} {c : Int} {items : Array Value} {old : Value} {Q : Option Value → Shared → Prop} (hh : A.handled = none)
    (he : IsEnum s.heap e it c old) (hit : s.heap.IsTupleIter it l i) (hl : s.heap.IsTuple l items) (hx : items[i]? = none)
    (hQ : ∀ h', Heap.ExtBut it s.heap h' → Q none { s with heap := h' }) : wpAny (model prog w) A (pyNext (.ref e)) Q E s := by
  have hT : s.TypeIs (.ref e) "enumerate" := ⟨_, he, rfl⟩
  unfold pyNext
  refine wpAny_bind (wpAny_attempt (wpAny_callSpecial?_slot (name := Str.ofString "__next__") hT F.slot_enumerate_next
    (wpAny_call_entry F.slot_enumerate_next hT F.entry_enumerate_next ?_ (F.args_enumerate_next_1 _))))
  show wpAny _ _ (field (.ref e) 2 >>= _) _ _ _
  refine wpAny_bind (wpAny_field he rfl (x := .ref it) rfl ?_)
  refine wpAny_bind (wpAny_nextOf_tuple_end hh hit hl hx fun h' x he' hx' => ?_)
  obtain ⟨o, ho, hc⟩ := hx'
  refine wpAny_bind (wpAny_isInstance (T := "StopIteration") (b := true) ⟨o, ho, hc⟩ isSubtype_stop ?_)
  exact wpAny_pure (hQ _ he')
theorem turn_enumT {P : Program} {w : World} {K : Frag} {elts : List Expr} {kk : Nat} {tpos : Pos} (a e it : Addr) :
    Turn P w K (.Tuple elts kk tpos) (Iet K a) [e, it] e (fun i h => (∃ old, IsEnum h e it ((i : Nat) : Int) old) ∧ h.IsTupleIter it a i ∧ e ≠ it) where
  mem := by simp
  obj := fun i h st b hb => by
    obtain ⟨⟨old, he⟩, ⟨o, ho, hc, hd⟩, _⟩ := st
    have e' : b = e ∨ b = it := by simpa using hb
    rcases e' with z | z
    · rw [z]; exact ⟨_, he, fun v q => nomatch q⟩
    · rw [z]; exact ⟨o, ho, fun v q => by rw [hd] at q; cases q⟩
  keep := fun i h h' st k => let ⟨⟨old, he⟩, hi, hne⟩ := st; ⟨⟨old, k e (by simp) _ he⟩, hi.at fun o q => k it (by simp) o q, hne⟩
  item := by
    intro X hP hw hK hc i pins s σ H E I hf st hg
    subst hP hw hK
    obtain ⟨⟨old, he⟩, hit, hne⟩ := st
    obtain ⟨xs, x, hq, hx⟩ := hg
    obtain ⟨its, rv, p, hz⟩ := I.tuple hq
    have ht : s.heap.IsTuple a its.toArray := p
    obtain ⟨u, hu, ru⟩ := rv.get hx
    have hel : e < s.heap.objs.size := Heap.lt_size he
    have hil : it < s.heap.objs.size := by obtain ⟨_, q, _⟩ := hit; exact Heap.lt_size q
    have hat : a ≠ it := by
      rintro rfl
      obtain ⟨o1, e1, c1, _⟩ := hit
      obtain ⟨o2, e2, c2, _⟩ := ht
      rw [e1] at e2; cases e2
      rw [c1] at c2; exact absurd c2 (by simp)
    have hae : e ≠ a := by
      rintro rfl
      obtain ⟨o2, e2, c2, _⟩ := ht
      rw [show s.heap.get? e = _ from he] at e2; cases e2
      exact absurd c2 (by simp)
    have D := Draws.tuple (prog := X.prog) (w := X.w) (A := X.A.in1) (show X.A.in1.handled = none from I.ok.hd hc) it a hat its.toArray
    have hlt : i < its.toArray.size := by
      have := rv.length
      obtain ⟨h1, _⟩ := List.getElem?_eq_some_iff.mp hx
      simp; omega
    refine wpAny_pyNext_enum_itemC D he ⟨hit, ht⟩ hlt hne (by simp; exact ⟨hne, hae⟩) fun u2 h' tk hP ho hst hT hsz hk => ?_
    have eu : u2 = u := by
      have h1 : its.toArray[i]? = some u2 := hP
      rw [List.getElem?_toArray] at h1
      rw [hu] at h1
      exact (Option.some.inj h1).symm
    subst eu
    refine ⟨_, rfl, wpAny_letOwnedTupleGo_enum (s := { s with heap := h', toks := tk + 1 }) ho fun h'' he' sb => ?_⟩
    have hT2 : h''.get? s.heap.objs.size = some { cls := .type "tuple", data := .seq #[.int i tk, u2] } := (sb.2 _ (Nat.ne_of_gt hel)).trans hT
    have new : ObjOk X.prog X.w (upd H s.heap.objs.size (.tup [.int (i : Nat), x])) h'' s.heap.objs.size (.tup [.int (i : Nat), x]) :=
      ⟨by show 2 ≤ sizeLine; decide, [.int i tk, u2], .cons ⟨_, rfl⟩ (.cons ru .nil), ⟨_, hT2, rfl, _, rfl⟩⟩
    have I1 : Inv X pins σ (upd H s.heap.objs.size (.tup [.int (i : Nat), x])) { s with heap := h'', toks := tk + 1 } :=
      I.turnedNew (ch := [e, it]) (fun b ob hb q => (sb.2 b (fun z => hb (by simp [z]))).trans (hk b ob (fun z => hb (by simp [z])) (fun z => hb (by simp [z])) q)) hf (Nat.le_refl _) new
    refine ⟨.ref s.heap.objs.size, _, I1, rfl, ⟨_, x, rfl, I.hok.fresh (Nat.le_refl _), rfl, fun ys hy => by rw [I.tuple_inj hy hq]; exact hx⟩, ⟨⟨u2, ?_⟩, hst.1.at fun o q => (sb.2 it (Ne.symm hne)).trans q, hne⟩, fun b hb => ?_⟩
    · have e1 : ((i + 1 : Nat) : Int) = (i : Int) + 1 := by omega
      rw [e1]; exact he'
    · have hb' : b < s.heap.objs.size := by
        have e' : b = e ∨ b = it := by simpa using hb
        rcases e' with z | z
        · rw [z]; exact hel
        · rw [z]; exact hil
      rw [upd_ne (Nat.ne_of_lt hb')]
      exact (hf b hb).1
  done := by
    intro X hP hw hK hc i pins s σ H E I hf st hg
    subst hP hw hK
    obtain ⟨⟨old, he⟩, hit, hne⟩ := st
    obtain ⟨xs, hq, hx⟩ := hg
    obtain ⟨its, rv, p, hz⟩ := I.tuple hq
    have ht : s.heap.IsTuple a its.toArray := p
    obtain ⟨f0, f1, f2, f3, f4, f5⟩ := hf it (by simp)
    have hl := rv.length
    exact enum_endT (I.ok.hd hc) he hit ht (by simp; omega) fun h' eb => ⟨rfl, I.turned (t' := s.toks) (fun b o hb q => eb b o hb q) f0 f1 f3 f4 f5⟩
  self := fun A i s Q E st h => let ⟨⟨_, he⟩, _⟩ := st; wpAny_pyIter_enum he h
/-- over the tuple at p -/
structure EnW (K : Frag) (H : Hp) (p : Addr) (R : It → Hp → Prop) : Prop where
  ex : ∃ xs, SqT K H p xs
  go : R (Iet K p) H
def iEn (K : Frag) (ta : TE) : TI := fun σ H R => ta σ H fun x H1 => match x with
  | .ref p => EnW K H1 p R
  | _ => False
theorem pi_en {X : Cx} {e : Expr} {ta : TE} {p pos tpos : Pos} {elts : List Expr} {kk : Nat} (hm : X.mg "enumerate" = none) (ha : PE X e ta) (hg : Gl X "enumerate" := by rfl) (hs : starEach [e] X.env = [(false, eval e X.env)] := by rfl) :
    PI X (.Tuple elts kk tpos) (.Call (.Name "enumerate" p) [e] [] pos) (iEn X.K ta) := by
  refine ⟨fun pins s σ H R I h => ?_⟩
  have hA : PA X [e] (tCons ta tNil) := pa_cons ha pa_nil hs
  refine Call_ (ld_blt I hg hm boot_enumerate (PyProof.Rows.callWith_type1 (thn (hA.run pos pins s σ H (fun vs H1 => ∃ a xs, vs = [V.ref a] ∧ SqT X.K H1 a xs ∧ R (Iet X.K a) H1) I ?hq) fun us s1 ⟨vs, H1, I1, r1, q1⟩ => ?_) hs rfl))
  case hq =>
    show ta σ H fun x H1 => _
    have key : ∀ (x : V) (H1 : Hp), (match x with | .ref p => EnW X.K H1 p R | _ => False) → (tNil σ H1 fun xs H2 => ∃ a ys, x :: xs = [V.ref a] ∧ SqT X.K H2 a ys ∧ R (Iet X.K a) H2) := by
      intro x H1 q
      cases x <;> try exact q.elim
      obtain ⟨⟨xs, hx⟩, q⟩ := q
      exact ⟨_, xs, rfl, hx, q⟩
    have e : (fun (x : V) (H1 : Hp) => (match x with | .ref p => EnW X.K H1 p R | _ => False)) = fun x H1 => (tNil σ H1 fun xs H2 => ∃ a ys, x :: xs = [V.ref a] ∧ SqT X.K H2 a ys ∧ R (Iet X.K a) H2) := by
      funext x H1
      refine propext ⟨key x H1, fun ⟨a, ys, e, hy, q⟩ => ?_⟩
      have e2 : x = .ref a := (List.cons.inj e).1
      subst e2
      exact ⟨⟨ys, hy⟩, q⟩
    rw [← e]
    exact h
  obtain ⟨a, xs, ex, hq, q⟩ := q1
  subst ex
  cases r1 with
  | cons r rr =>
    cases rr
    cases r
    obtain ⟨its, rv, p', hz⟩ := I1.tuple hq
    refine enum_begins1 (begins_tuple a its.toArray) (show s1.heap.IsTuple a its.toArray from p') fun h' he hit hsz hk => wpAny_pyIter_enum he ?_
    have I2 : Inv X pins σ H1 { s1 with heap := h' } := I1.kept (t' := s1.toks) hk
    refine ⟨s1.heap.objs.size + 1, [s1.heap.objs.size + 1, s1.heap.objs.size], _, _, H1, rfl, I2, turn_enumT a (s1.heap.objs.size + 1) s1.heap.objs.size, ⟨⟨.none, he⟩, ⟨_, hit, rfl, rfl⟩, Nat.succ_ne_self _⟩, fun b hb => ?_, q⟩
    have e' : b = s1.heap.objs.size + 1 ∨ b = s1.heap.objs.size := by simpa using hb
    have hle : s1.heap.objs.size ≤ b := by
      rcases e' with z | z
      · rw [z]; exact Nat.le_add_right _ _
      · rw [z]; exact Nat.le_refl _
    exact I1.fpOk hle (I1.hok.fresh hle)
/-- a loop over them: each pair is new -/
theorem for_en {K : Frag} {p : Addr} {xs : List V} {g : TG} {tb : TS} {D : Ends} {σ : L2.St} {H : Hp} (Pv : Nat → L2.St → Hp → Prop) (hx : SqT K H p xs) (h0 : Pv 0 σ H) (hl : ∀ i σ H', i ≤ xs.length → Pv i σ H' → SqT K H' p xs)
    (hs : ∀ (i : Nat) x σ H, xs[i]? = some x → Pv i σ H → ∀ T, H T = none → g (.ref T) σ (upd H T (.tup [.int (i : Int), x])) fun σ2 H2 => tb { D with nx := Pv (i + 1), ct := Pv (i + 1), bk := D.nx } σ2 H2) (hd : ∀ σ H, Pv xs.length σ H → D.nx σ H) :
    EnW K H p (LoopR D g tb σ) := by
  refine ⟨⟨xs, hx⟩, fun i m σ H => i ≤ xs.length ∧ m = xs.length - i ∧ Pv i σ H, ⟨_, Nat.zero_le _, rfl, h0⟩, ?_⟩
  rintro i m σ H ⟨hi, rfl, hp⟩
  have hq := hl i σ H hi hp
  by_cases hlt : i < xs.length
  · have hxi : xs[i]? = some xs[i] := List.getElem?_eq_getElem hlt
    refine .inr ⟨⟨xs, _, hq, hxi⟩, Pv (i + 1), fun σ' H' q => ⟨_, by omega, by omega, rfl, q⟩, ?_⟩
    rintro v H' ⟨T, y, rfl, hT, rfl, hy⟩
    have e := hy xs hq
    exact hs i y σ H e hp T hT
  · have e : i = xs.length := by omega
    subst e
    exact .inl ⟨⟨xs, hq, Nat.le_refl _⟩, hd _ _ hp⟩
/-- x in a list or tuple of scalars -/
def oIn (K : Frag) : R2 := fun x y H Q => match y with
  | .ref p => Rd K H p fun xs => Need (flatV x = true ∧ xs.all flatV = true) (Q (.bl (inV x xs)) H)
  | _ => False
def oNin (K : Frag) : R2 := fun x y H Q => match y with
  | .ref p => Rd K H p fun xs => Need (flatV x = true ∧ xs.all flatV = true) (Q (.bl (!inV x xs)) H)
  | _ => False
theorem o_in {X : Cx} : OpR X (compareOp .In) (oIn X.K) := OpR.of op_in_seq fun x y H Q q => by
  cases y <;> try exact q.elim
  obtain ⟨⟨xs, hx, ⟨⟨f1, f2⟩, q⟩⟩⟩ := q
  exact ⟨_, xs, rfl, hx, f1, f2, q⟩
theorem o_nin {X : Cx} : OpR X (compareOp .NotIn) (oNin X.K) := OpR.of op_notIn_seq fun x y H Q q => by
  cases y <;> try exact q.elim
  obtain ⟨⟨xs, hx, ⟨⟨f1, f2⟩, q⟩⟩⟩ := q
  exact ⟨_, xs, rfl, hx, f1, f2, q⟩
theorem inV_int (i : Int) (ns : List Int) : inV (.int i) (ns.map V.int) = decide (i ∈ ns) := by
  induction ns with
  | nil => rfl
  | cons x r ih =>
    show (eqV (.int x) (.int i) || inV (.int i) (r.map V.int)) = _
    rw [ih]
    have e : eqV (.int x) (.int i) = decide (i = x) := by
      show (x == i) = _
      by_cases h : i = x
      · subst h; simp
      · rw [decide_eq_false h, beq_eq_false_iff_ne]; exact fun z => h z.symm
    rw [e]
    by_cases h : i = x <;> by_cases h2 : i ∈ r <;> simp [h, h2]
theorem flat_ints (ns : List Int) : (ns.map V.int).all flatV = true := by
  induction ns with
  | nil => rfl
  | cons x r ih => rw [List.map_cons, List.all_cons, ih]; rfl
/-- sorted(a list of numbers) -/
structure Srt (K : Frag) (H : Hp) (p : Addr) (Q : V → Hp → Prop) : Prop where
  ex : ∃ ns : List Int, SqL K H p (ns.map V.int) ∧ ∀ (ns' : List Int) (q : Addr), ns'.Perm ns → ns'.Pairwise (· ≤ ·) → H q = none → Q (.ref q) (upd H q (.lst (ns'.map V.int)))
def cSorted (K : Frag) : List V → Hp → VK → Prop := fun xs H Q => match xs with
  | [.ref p] => Srt K H p Q
  | _ => False
theorem c_sorted {X : Cx} : CallR X (.builtin "sorted") (cSorted X.K) := CallR.of cr_sortedI fun xs H Q q => by
  match xs, q with
  | [.ref p], ⟨⟨ns, h1, h2⟩⟩ => exact ⟨p, ns, rfl, h1, h2⟩
/-- code that is never reached: its reading asks for the impossible -/
def dNo : TS := fun _ _ _ => False
theorem ps_no {X : Cx} {e : Stmt} : PS X e dNo := ⟨fun _ _ _ _ _ _ h => h.elim⟩
end S
namespace S
open PySem PySem.Spec PyProof.Rows L2
/-! ### number * number, list * number -/
def oMulA : R2 := fun x y H Q => match x, y with
  | .int i, .int j => Need (CMul i j) (Q (.int (i * j)) H)
  | .ref l, .int k => Ls H l fun xs => Need (-(2 ^ 63) ≤ k ∧ k < 2 ^ 63 ∧ xs.length * k.toNat ≤ sizeLine) (NewL H (List.replicate k.toNat xs).flatten Q)
  | _, _ => False
theorem o_mulA {X : Cx} : OpR X (binaryOp .Mult) oMulA := OpR.of (op_mul.or op_rep) fun x y H Q q => by
  cases x <;> cases y <;> try exact q.elim
  · exact .inl ⟨_, _, rfl, rfl, q.c, q.q⟩
  · obtain ⟨⟨xs, h, ⟨⟨h1, h2, h3⟩, ⟨q⟩⟩⟩⟩ := q
    exact .inr ⟨_, _, xs, rfl, rfl, h, h1, h2, h3, q⟩
/-! ### staticmethods -/
structure StF (K : Frag) (c m : Str) : Prop where
  rd : PySem.W.readsIn K (He.ga K c) (.type "type") = true
  ga : PySem.W.specialIn K (.ref (He.ga K c)) "__getattribute__" = some (some (.builtin "type.__getattribute__"))
  at_ : PySem.W.findCls K (.ref (He.ga K c)) (.type "type") m = some (.get (.builtin "staticmethod.__get__") (.ref (He.ma K (He.ga K c) m)) .none (.ref (He.ga K c)))
  rc : ∃ rest, PySem.W.recIn K (He.ma K (He.ga K c) m) "staticmethod" = some (.ref (uA K c m) :: rest)
  kp : PySem.W.keepIn K (.ref (uA K c m)) = true
def statB (c m : Str) (K : Frag) : Bool := PySem.W.readsIn K (He.ga K c) (.type "type") && (He.eqO (PySem.W.specialIn K (.ref (He.ga K c)) "__getattribute__") (some (some (.builtin "type.__getattribute__"))) &&
  ((match PySem.W.findCls K (.ref (He.ga K c)) (.type "type") m with
    | some (.get (.builtin g) (.ref p) .none (.ref D)) => decide (g = "staticmethod.__get__") && (decide (p = He.ma K (He.ga K c) m) && decide (D = He.ga K c))
    | _ => false) && ((match PySem.W.recIn K (He.ma K (He.ga K c) m) "staticmethod" with
    | some (.ref g :: _) => decide (g = uA K c m)
    | _ => false) && PySem.W.keepIn K (.ref (uA K c m)))))
theorem statB_ok {K : Frag} {c m : Str} (h : statB c m K = true) : StF K c m := by
  obtain ⟨h1, h⟩ := He.ba h
  obtain ⟨h2, h⟩ := He.ba h
  obtain ⟨h3, h⟩ := He.ba h
  obtain ⟨h4, h5⟩ := He.ba h
  refine ⟨h1, He.eqO_ok h2, ?_, ?_, h5⟩
  · clear h4
    split at h3
    · rename_i g p D e
      obtain ⟨k1, k⟩ := He.ba h3
      obtain ⟨k2, k3⟩ := He.ba k
      rw [e, of_decide_eq_true k1, of_decide_eq_true k2, of_decide_eq_true k3]
    · cases h3
  · clear h3
    split at h4
    · rename_i g r e
      rw [of_decide_eq_true h4] at e
      exact ⟨r, e⟩
    · cases h4
section
variable {X : Cx} {k : Nat} {sp : Sp} {E : L2.St → XK} {c m : Str} {pos apos : Pos} {o e : Expr} {es : List Expr} {t : TA}
theorem getstat_ok {pins : List (Addr × Obj)} {σ : L2.St} {H : Hp} {s : Shared} {A : Around} {E : Value → Shared → Prop} {pl : Sem Bool} {Q : Value × List Value → Shared → Prop} (I : Inv X pins σ H s) (r : StF X.K c m) (h : ∀ s', Inv X pins σ H s' → Q (.ref (uA X.K c m), []) s') :
    wpAny (model X.prog X.w) A (getMethod (.ref (He.ga X.K c)) m pl) Q E s := by
  obtain ⟨rest, hp⟩ := r.rc
  refine PySem.W.method_cls I.kIn r.ga (PySem.W.cls_bind I.kIn r.rd r.at_ ?_)
  refine wpAny_call (PySem.W.sm_get (s := { s with toks := s.toks + 1 }) I.kIn hp (PySem.W.handed_on rfl ?_))
  exact h _ (I.tok _)
/-- C.m(e, ..), m a staticmethod -/
def dStat (K : Frag) (sp : Sp) (E : L2.St → XK) (t : TA) : TE := fun σ H Q => t σ H fun vs H1 => sp vs H1 Q (E σ)
theorem pe_stat {pl : Sem Bool} (r : StF X.K c m) (F : FnR X.prog X.w X.K X.mg X.base (L2.CX X.prog X.w) k (uA X.K c m) sp) (hr : Room k X.A) (hx : ∀ σ, PassesAt (L2.CX X.prog X.w) X σ (E σ)) (he : PE X o (tC (.ref (He.ga X.K c)))) (ha : PA X (e :: es) t)
    (hst : starEach (e :: es) X.env = (false, eval e X.env) :: starEach es X.env := by rfl) (hpl : (backTo pos (starEach es X.env)).any (·.1) = false := by rfl)
    (ht : eval (.Call (.Attribute o m apos) (e :: es) [] pos) X.env = (do
      let ov ← eval o X.env
      standAt apos.atName
      let (f, first) ← holding [ov] (getMethod ov m pl)
      callWith pos f first (backTo pos (starEach (e :: es) X.env)) (backToKw pos (keywordEach [] X.env))) := by rfl) :
    PE X (.Call (.Attribute o m apos) (e :: es) [] pos) (dStat X.K sp E t) := by
  refine ⟨fun pins s σ H Q I h => ?_⟩
  refine PySem.W.methodCall_KW (pl := pl) (thn (he.run pins s σ H (fun x H1 => x = .ref (He.ga X.K c) ∧ t σ H1 fun vs H2 => sp vs H2 Q (E σ)) I ⟨rfl, h⟩) fun u s1 ⟨x, H1, I1, rx, ex, q⟩ => ?_) ht
  subst ex
  cases rx
  refine getstat_ok I1 r fun s2 I2 => ?_
  refine PySem.W.callWith_K (first := []) (h₀ := X.base) I2.ok.mod.kin r.kp (thn (ha.run pos pins s2 σ H1 _ I2 q) fun us s3 ⟨ws, H2, I3, r3, q2⟩ => ⟨I3.kIn, ?_⟩) hst hpl
  exact run_R F hr (hx σ) I3 r3 q2
end
end S
namespace S
open PySem PySem.Spec PyProof.Rows L2
/-! ### exceptions with an own __init__ over super().__init__ -/
def oexB (c : Str) (K : Frag) : Bool := (match K.lookup (He.ga K c) with
  | some ⟨.type "type", _, .cls cd, sl⟩ => (match cd.mro, sl.toList with
    | .ref C' :: bm, [_, _, _, _, some (.builtin n), _] => C' == He.ga K c && n == "ValueError.__new__" && !cd.hasDel && cd.hasDict && PySem.HandSPX.refsVE bm
    | _, _ => false)
  | _ => false) && (He.eqO (PySem.W.findIn K (.ref (He.ga K c)) "__setattr__") (some (some (.builtin "object.__setattr__"))) && (decide (PySem.W.subIn K (.ref (He.ga K c)) (.type "BaseException") = some true) &&
    (decide (PySem.W.typeIn K (.ref (He.ga K c)) = some (.type "type")) && PySem.W.keepIn K (.ref (He.ga K c)))))
theorem oexB_ok {K : Frag} {c : Str} (h : oexB c K = true) : OexC K (He.ga K c) := by
  obtain ⟨h1, h⟩ := He.ba h
  obtain ⟨h2, h⟩ := He.ba h
  obtain ⟨h3, h⟩ := He.ba h
  obtain ⟨h4, h5⟩ := He.ba h
  refine ⟨?_, He.eqO_ok h2, of_decide_eq_true h3, of_decide_eq_true h4, h5⟩
  clear h2 h3 h4 h5 h
  split at h1
  · rename_i dd cd sl ho
    split at h1
    · rename_i C' bm k0 k1 k2 k3 n k5 hm hs
      simp only [Bool.and_eq_true, beq_iff_eq, Bool.not_eq_true'] at h1
      obtain ⟨⟨⟨⟨e1, rfl⟩, hdel⟩, hd⟩, ht⟩ := h1
      obtain ⟨nm, bs, mro, ns, qn, hdc, sn, sub, ab, col, del⟩ := cd
      dsimp only at hm hdel hd
      subst hm hdel hd
      have hsl : sl = #[k0, k1, k2, k3, some (.builtin "ValueError.__new__"), k5] := by
        obtain ⟨l⟩ := sl
        simp only at hs
        rw [hs]
      subst hsl
      exact ⟨nm, qn, ns, bs, bm, sn, sub, ab, col, dd, k0, k1, k2, k3, k5, by rw [ho, e1], ht⟩
    · cases h1
  · cases h1
/-- what the written part says of such a class: fI its __init__ -/
structure XiF (P : Program) (K : Frag) (c fld nm qual : Str) (params : Arguments) (body : List Stmt) (scope : Scope) (fI : Addr) (fd : FuncData) : Prop where
  fn : ∃ oc od osl kV doc pm an cda ct cc, fd = PySem.W.ksFn nm qual params body scope .none kV doc pm an (.ref cda) ct cc ∧ K.lookup fI = some ⟨oc, od, .func fd, osl⟩ ∧ PySem.W.codeIn K (.ref cda) qual = true ∧
    (∃ cl cld csl, K.lookup cc = some ⟨cl, cld, .cell (some (.ref (He.ga K c))), csl⟩) ∧ ∃ ccl cdd vs ccs file tf, K.lookup cda = some ⟨ccl, cdd, .fields vs, ccs⟩ ∧ vs[2]? = some (.str file tf) ∧ ((P.main.file : Str) == file) = true
  sub : PySem.W.mroIn K (He.ga K c) (.ref (He.ga K c)) = some true
  sup : PySem.W.ks_superIn K (He.ga K c) (He.ga K c) "__init__" = some (some (.builtin "ValueError.__init__"))
  ve : PySem.W.subIn K (.ref (He.ga K c)) (.type "ValueError") = some true
  st : PySem.W.nsIn K cStatics "thirdparty.any" = some none
  oex : OexC K (He.ga K c)
  no : PySem.W.findIn K (.ref (He.ga K c)) fld = some none
  ini : PySem.W.findIn K (.ref (He.ga K c)) "__init__" = some (some (.ref fI))
  tI : PySem.W.typeIn K (.ref fI) = some (.type "function")
  top : (P.main.scope.names.lookup ("super" : Str)).isSome = false
/-- the promise: the field is kept -/
def spXi (K : Frag) (c fld : Str) : Sp := fun vs H Q _ => ∃ (a : Addr) (v : V), vs = [.ref a, v] ∧ H a = some (exo a (He.ga K c) none) ∧ ∀ dx, H dx = none → dx ≠ a → Q .non (upd (upd H dx (exd dx [(fld, v)])) a (exo a (He.ga K c) (some dx)))
section
variable {P : Program} {w : World} {K : Frag} {mg : Str → Option Value} {base : Heap} {CX : CXT} {c fld nm qual par msg : Str} {params : Arguments} {body : List Stmt} {scope : Scope} {fI : Addr} {fd : FuncData} {p0 p1 p2 p3 p4 p5 p6 p7 p8 p9 : Pos} {j : Nat}
theorem xi_ok {k : Nat} {pl : Env → Sem Bool} (D : XiF P K c fld nm qual params body scope fI fd) (hms : mg "super" = none)
    (hbody : body = [.Expr (.Call (.Attribute (.Call (.Name "super" p0) [] [] p1) "__init__" p2) [.Constant (.str msg) j p3] [] p4) p5, .Assign [.Attribute (.Name "self" p6) fld p7] (.Name par p8) p9])
    (hp : ∃ ar, (params.posonlyargs ++ params.args).head? = some ar ∧ ar.arg = "self") (hk : scope.kind = .function) (hco : scope.isCoroutine = false) (hgen : scope.isGenerator = false) (hcell : ∀ x ∈ scope.names, x.2 ≠ .cell)
    (hks : scope.names.lookup ("super" : Str) = some .globalImplicit) (hkc : scope.names.lookup ("__class__" : Str) = some .free) (hka : scope.names.lookup ("self" : Str) = some .local) (hkp : scope.names.lookup par = some .local) (hne : par ≠ "self") (hpd : (par == ("__debug__" : Str)) = false)
    (hsw : ∀ env, swapsWith (.Name par p8) (some (.Attribute (.Name "self" p6) fld p7)) p9.line env = pure false) (hsw2 : ∀ env, swapsWith (.Call (.Attribute (.Call (.Name "super" p0) [] [] p1) "__init__" p2) [.Constant (.str msg) j p3] [] p4) none p5.line env = pure false)
    (hev : ∀ env, eval (.Call (.Attribute (.Call (.Name "super" p0) [] [] p1) "__init__" p2) [.Constant (.str msg) j p3] [] p4) env = (do
      let ov ← attributeBase (.Call (.Name "super" p0) [] [] p1) "__init__" env (eval (.Call (.Name "super" p0) [] [] p1) env)
      standAt p2.atName
      let (f, first) ← holding [ov] (getMethod ov "__init__" (pl env))
      callWith p4 f first (backTo p4 (starEach [.Constant (.str msg) j p3] env)) [])) :
    FnOk P w K mg base CX k fI fd ["self", par] (spXi K c fld) := by
  refine ⟨fun vs H Q E h => by obtain ⟨a, v, rfl, _⟩ := h; rfl, fun A outer s H args us vs Q E hr e0 hb rv hsp => ?_⟩
  obtain ⟨a, v, rfl, ha, q⟩ := hsp
  obtain ⟨oc, od, osl, kV, doc, pm, an, cda, ct, cc, rfl, lk, hcd, ⟨cl, cld, csl, lc⟩, ccl, cdd, fvs, ccs, file, tf, lcd, hvs, hfile⟩ := D.fn
  cases rv with
  | @cons _ u0 _ ur ra rv' =>
    cases rv' with
    | @cons _ uv _ _ rr rn =>
      cases rn
      obtain rfl : u0 = Value.ref a := ra
      have KX : K.In s.heap := e0.mod.kin.keeps fun b o e => (e0.bs b o e).1
      have lim : s.heap.NoLimit := e0.mod.nolimit.keeps fun b o e => (e0.bs b o e).1
      obtain ⟨t1, ho⟩ := exo_at e0.hok ha
      obtain ⟨nmC, qC, NC, bsC, bmC, snC, subC, abC, colC, ddC, k0, k1, k2, k3, k5, hC, hbm⟩ := D.oex.cls
      obtain ⟨ar, har, har2⟩ := hp
      obtain ⟨mb, hmb, hbt⟩ := e0.mod.blt
      have haC : a ≠ He.ga K c := fun z => by
        have hb1 : base.get? (He.ga K c) = _ := e0.mod.kin _ _ hC
        have := (e0.bs _ _ hb1).2
        rw [← z, ha] at this
        cases this
      subst hbody
      have hlk1 : ([(("self" : Str), Value.ref a), (par, uv)] : List (Str × Value)).reverse.lookup ("self" : Str) = some (Value.ref a) := by
        have e : (("self" : Str) == par) = false := by rw [beq_eq_false_iff_ne]; exact fun z => hne z.symm
        simp [List.lookup, e]
      have hlk2 : ([(("self" : Str), Value.ref a), (par, uv)] : List (Str × Value)).reverse.lookup par = some uv := by simp [List.lookup]
      refine PySem.ks_codeAny_call_defAt (binds := [("self", .ref a), (par, uv)]) hr.depth (KX _ _ lk) rfl lim (PySem.W.codeRec_of KX hcd) rfl hb hcell (fun y hy => ?_) (fun h₁ hns keep => ?_) hco hgen hk
      · rcases List.mem_cons.mp hy with rfl | hy
        · exact hka
        · rw [List.mem_singleton.mp hy]; exact hkp
      have K1 : K.In h₁ := KX.keeps keep
      have g1 : h₁.Ns mainGlobals mg := e0.mod.glob.keeps fun b o e => keep b o (e0.bs b o e).1
      have b1 : h₁.Ns builtinsNs mb := hmb.keeps fun b o e => keep b o (e0.bs b o e).1
      have nL : s.heap.objs.size ≠ a := Nat.ne_of_gt (Heap.lt_size ho)
      refine PySem.ks_wpAt_execs_cons (PySem.ks_wpAt_Expr_any (hi := by unfold interactive; show (scope.kind == _ && _) = false; rw [hk]; rfl) (hs := hsw2 _) (PySem.ks_wpAt_MethodCall (he := hev _) (PySem.ks_wpAt_super_base hks hkc (by decide) rfl (K1 _ _ lk) rfl har rfl (K1 _ _ lcd) rfl hvs hfile D.top ?_)))
      rw [har2]
      refine PySem.W.ks_loadName_global hk hks (Calls.loadGlobal_builtin g1 hms b1 ((hbt "super" (by decide)).trans (by decide +kernel : bootBuiltins ("super" : Str) = some (.type "super"))) ⟨rfl, ?_⟩)
      refine wpAny_loadName_free hk hkc rfl ⟨_, K1 _ _ lc, rfl⟩ ?_
      refine wpAny_loadName_local hk hka hns hlk1 ?_
      obtain ⟨sh, sg, sd, stk, sos⟩ := s
      refine PySem.ks_wpAny_isType_cls (K1 _ _ hC) rfl ⟨rfl, ?_⟩
      refine PySem.ks_wpAny_call_super (K1 _ _ hC) rfl (keep _ _ ho) rfl (fun c z => nomatch z) (PySem.W.looks_mroIn K1 D.sub) fun h2 hso kp2 => ?_
      have K2 : K.In h2 := K1.keeps kp2
      have ho2 := kp2 _ _ (keep _ _ ho)
      have I2 : PySem.W.InstAt h2 a _ (He.ga K c) none := ⟨ho2, rfl, rfl, trivial⟩
      obtain ⟨cd, hcl, hal⟩ : ∃ cd, PySem.W.clsIn K (He.ga K c) = some cd ∧ PySem.W.alongIn K "__init__" ((cd.mro.dropWhile (· != .ref (He.ga K c))).drop 1) = some (some (.builtin "ValueError.__init__")) := by
        have hm := D.sup
        unfold PySem.W.ks_superIn at hm
        cases hc : PySem.W.clsIn K (He.ga K c) with
        | none => rw [hc] at hm; cases hm
        | some cd => rw [hc] at hm; exact ⟨cd, rfl, hm⟩
      refine PySem.W.kxs_getMethod PySem.W.kxs_ValueError hso (PySem.W.looks_opaque K2 D.st) (l₀ := cd.mro) (fun A Q E s k q => wpAny_bind ((PySem.W.looks_clsIn K2 hcl) A _ E s k (wpAny_pure q))) rfl K2 hal (I2.type.andThen (PySem.W.looks_subIn K2 D.ve)) haC (by decide) ?_
      have K3 : K.In (h2.push (PySem.W.kxs_mw "ValueError.__init__" a)) := K2.keeps fun b o e => Heap.get?_push_of_some _ e
      have hu : (h2.push (PySem.W.kxs_mw "ValueError.__init__" a)).get? h2.objs.size = some (PySem.W.kxs_mw "ValueError.__init__" a) := Heap.get?_push_at rfl rfl
      have ho3 := Heap.get?_push_of_some (PySem.W.kxs_mw "ValueError.__init__" a) ho2
      refine PySem.W.kxs_callWith (i := "ValueError.__init__") (x := a) rfl (Calls.evalArgs_plain ?_)
      show wpAny _ _ (spliced ((false, eval (.Constant (.str msg) j p3) _) :: backTo p4 (starEach [] _))) _ _ _
      refine Calls.spliced_cons (wpAny_Constant_str ?_)
      refine Calls.spliced_nil ⟨hu, ?_⟩
      refine wpAny_call (codeAny_of_tree ?_)
      show wpAny _ _ (callAny (.ref h2.objs.size) ⟨[.str msg _], []⟩) _ _ _
      simp only [callAny]
      refine wpAny_bind (wpAny_load hu ?_)
      simp only [PySem.W.kxs_mw, show (Value.type "method-wrapper" == Value.type "method" || Value.type "method-wrapper" == Value.type "builtin_function_or_method" || Value.type "method-wrapper" == Value.type "method-wrapper") = true by decide, if_true]
      refine PySem.W.KFB.if_so (by decide) ?_
      refine wpAny_bind (PySem.W.check_bound_init PySem.F.excBase_ValueError.toExcCallFacts (K3 _ _ hC) ho3 rfl ?_)
      refine wpAny_bind (wpAny_pure (wpAny_pure ?_))
      refine ⟨plainId_quiet PySem.F.excBase_ValueError.init.plain _, codeAny_builtin PySem.F.excBase_ValueError.initEntry ?_⟩
      refine PySem.W.exc_init_tree (cls := .ref (He.ga K c)) (t0 := t1) (dv := none) (c2 := .none) (c3 := .none) (b4 := .bool false) ho3 (by rw [sizeLine_eq]; show 1 ≤ 16777216; decide) fun h4 k4 ho4 _ => ?_
      have kall : ∀ b o, b ≠ a → h₁.get? b = some o → h4.get? b = some o := fun b o hb e => k4 b o hb (Heap.get?_push_of_some _ (kp2 b o e))
      have K4 : K.In h4 := fun b o e => kall b o (fun z => by
        have e1 := (e0.bs _ _ (e0.mod.kin _ _ e)).2
        rw [z, ha] at e1
        cases e1) (K1 _ _ e)
      have hns4 := hns.at (h' := h4) fun o e => kall _ o nL e
      have hcl2 : PySem.W.clsIn K (He.ga K c) = some { name := nmC, bases := bsC, mro := .ref (He.ga K c) :: bmC, ns := NC, qualname := qC, hasDict := true, slotNames := snC, subclasses := subC, abstract := abC, collection := colC, hasDel := false } := by unfold PySem.W.clsIn; rw [hC] <;> rfl
      show _root_.PySem.wpAt _ _ _ (execs [.Assign [.Attribute (.Name "self" p6) fld p7] (.Name par p8) p9] _) _ _ _
      refine PySem.ks_wpAt_execs_cons (wpAt_of_wpAny (plainObj_wpAny_Assign_Attribute (wpAny_Name (wpAny_loadName_local hk hkp hns4 hlk2 (wpAny_Name (wpAny_loadName_local hk hka hns4 hlk1 ?_) (by decide))) hpd) (hsw _)))
      refine PySem.W.set_plain K4 (od := none) ⟨ho4, rfl, rfl, trivial⟩ D.oex.sa ?_
      refine PySem.HandSPX.exc_osa K4 ho4 hcl2 (show PySem.HandSPX.refsVE (.ref (He.ga K c) :: bmC) = true from hbm) rfl D.no (fun h' tk' dx kk dn dne hx hn => ?_)
      have kfin : ∀ b o, b ≠ a → sh.get? b = some o → h'.get? b = some o := fun b o hb e => kk b o hb (kall b o hb (keep b o e))
      have dn0 : sh.objs.size ≤ dx := by
        obtain ⟨o, _, _, e, _⟩ := hns4
        exact Nat.le_trans (Nat.le_of_lt (Heap.lt_size e)) dn
      have hnd : H dx = none := e0.hok.fresh dn0
      have nd : ∀ {b : Addr} {o : Obj}, sh.get? b = some o → b ≠ dx := fun {b o} q => Nat.ne_of_lt (Nat.lt_of_lt_of_le (Heap.lt_size q) dn0)
      have na : ∀ {b : Addr}, H b = none → b ≠ a := fun {b} n z => by
        rw [z, ha] at n
        cases n
      show _root_.PySem.wpAt _ _ _ (execs [] _) _ _ _
      refine wpAt_of_wpAny (wpAny_execs_nil ?_)
      refine ⟨.non, upd (upd H dx (exd dx [(fld, v)])) a (exo a (He.ga K c) (some dx)), rfl, e0.bare, ⟨fun b o q n _ _ => kfin b o (na n) q, fun b o q n _ _ => ⟨o.slots, kfin b o (na n) q⟩, fun b o q n _ => by rw [upd_ne (na n), upd_ne (nd q)]; exact n, fun b o q _ => ?_, fun b xs q => by rw [upd_ne (at_ne ha q exo_tup), upd_ne (ne_of_none q hnd)]; exact q, fun b o v q => by rw [upd_ne (at_ne ha q exo_frz), upd_ne (ne_of_none q hnd)]; exact q, fun b ps q => ⟨#[], by rw [upd_ne (at_ne ha q exo_tbl), upd_ne (ne_of_none q hnd), q]; simp⟩⟩, fun b o q => ?_, rfl, q dx hnd dne⟩
      · by_cases hb : b = a
        · exact ⟨_, by rw [hb]; exact hx⟩
        · exact ⟨o, kfin b o hb q⟩
      · by_cases hb : b = a
        · subst hb
          rw [upd_same] at q
          cases q
          exact exo_ok hx
        · rw [upd_ne hb] at q
          by_cases hd : b = dx
          · subst hd
            rw [upd_same] at q
            cases q
            exact exd_ok hn (relO_put (fs := []) rr fun g => True.intro)
          · rw [upd_ne hd] at q
            exact (e0.hok b o q).stay (fun c v hc z => kfin c v (by
                rcases hc with hc | hc
                · rw [hc]
                  exact hb
                · exact at_ne ha hc exo_own) z)
              (fun c hc => by rw [upd_ne (at_ne ha hc exo_own), upd_ne (ne_of_none hc hnd)]; exact hc) (fun c xs hc => by rw [upd_ne (at_ne ha hc exo_tup), upd_ne (ne_of_none hc hnd)]; exact hc)
end
/-! ### raise C(e) -/
/-- a new exception's dict -/
structure NewX (H : Hp) (fs : List (Str × V)) (k : Addr → Hp → Prop) : Prop where
  go : ∀ d, H d = none → k d (upd H d (.xd fs))
def dRsI (K : Frag) (c fld : Str) (W : WX) (i : Nat) : TS := fun _ σ H => onSome (nth σ i) fun v => NewX H [(fld, v)] fun d H2 => W (.ref (He.ga K c)) (some d) σ H2
theorem xi_heap {H : Hp} {a dx C : Addr} {fld : Str} {v : V} (ha : H a = none) (hd : H dx = none) (hne : dx ≠ a) : upd (del (upd (upd (upd H a (exo a C none)) dx (exd dx [(fld, v)])) a (exo a C (some dx))) a) dx (.xd [(fld, v)]) = upd H dx (.xd [(fld, v)]) := by
  funext b
  by_cases h1 : b = dx
  · rw [h1, upd_same, upd_same]
  · rw [upd_ne h1, upd_ne h1]
    by_cases h2 : b = a
    · rw [h2, del_same, ha]
    · rw [del_ne h2, upd_ne h2, upd_ne h1, upd_ne h2]
theorem ps_rsI {X : Cx} {c fld nm qual par msg : Str} {params : Arguments} {body : List Stmt} {scope : Scope} {fI : Addr} {p0 p1 p2 p3 p4 p5 p6 p7 p8 p9 pp ppos ppos' : Pos} {j : Nat} {pl : Env → Sem Bool} {W : WX} {e : Expr} {ix : Nat} (tk : Takes X W)
    (D : ∃ fd, XiF X.prog X.K c fld nm qual params body scope fI fd) (hms : X.mg "super" = none) (gC : X.mg c = some (.ref (He.ga X.K c))) (hr : Room 1 X.A) (he : PE X e (dVar ix))
    (hbind : ∀ (kV doc pm : Value) (an : Option Addr) (cdv ct : Value) (cc : Addr) (us : List Value), us.length = 2 → bindArgs (PySem.W.ksFn nm qual params body scope .none kV doc pm an cdv ct cc) ⟨us, []⟩ = pure ([("self" : Str), par].zip us))
    (hbody : body = [.Expr (.Call (.Attribute (.Call (.Name "super" p0) [] [] p1) "__init__" p2) [.Constant (.str msg) j p3] [] p4) p5, .Assign [.Attribute (.Name "self" p6) fld p7] (.Name par p8) p9])
    (hp : ∃ ar, (params.posonlyargs ++ params.args).head? = some ar ∧ ar.arg = "self") (hk : scope.kind = .function) (hco : scope.isCoroutine = false) (hgen : scope.isGenerator = false) (hcell : ∀ x ∈ scope.names, x.2 ≠ .cell)
    (hks : scope.names.lookup ("super" : Str) = some .globalImplicit) (hkc : scope.names.lookup ("__class__" : Str) = some .free) (hka : scope.names.lookup ("self" : Str) = some .local) (hkp : scope.names.lookup par = some .local) (hne : par ≠ "self") (hpd : (par == ("__debug__" : Str)) = false)
    (hsw : ∀ env, swapsWith (.Name par p8) (some (.Attribute (.Name "self" p6) fld p7)) p9.line env = pure false) (hsw2 : ∀ env, swapsWith (.Call (.Attribute (.Call (.Name "super" p0) [] [] p1) "__init__" p2) [.Constant (.str msg) j p3] [] p4) none p5.line env = pure false)
    (hev : ∀ env, eval (.Call (.Attribute (.Call (.Name "super" p0) [] [] p1) "__init__" p2) [.Constant (.str msg) j p3] [] p4) env = (do
      let ov ← attributeBase (.Call (.Name "super" p0) [] [] p1) "__init__" env (eval (.Call (.Name "super" p0) [] [] p1) env)
      standAt p2.atName
      let (f, first) ← holding [ov] (getMethod ov "__init__" (pl env))
      callWith p4 f first (backTo p4 (starEach [.Constant (.str msg) j p3] env)) []))
    (hc : X.calm = true := by rfl) (hg : Gl X c := by rfl) (hdb : (c == ("__debug__" : Str)) = false := by decide) (hst : starEach [e] X.env = (false, eval e X.env) :: starEach [] X.env := by rfl) (hpl : (backTo ppos (starEach [] X.env)).any (·.1) = false := by rfl) :
    PS X (.Raise (some (.Call (.Name c pp) [e] [] ppos)) none ppos') (dRsI X.K c fld W ix) := by
  obtain ⟨fd, D⟩ := D
  have F1 : FnOk X.prog X.w X.K X.mg X.base (L2.CX X.prog X.w) 0 fI fd ["self", par] (spXi X.K c fld) := xi_ok D hms hbody hp hk hco hgen hcell hks hkc hka hkp hne hpd hsw hsw2 hev
  have hb : Binds X.K fd ["self", par] [] := by
    obtain ⟨oc, od, osl, kV, doc, pm, an, cda, ct, cc, rfl, _⟩ := D.fn
    exact Binds.all fun us hl => hbind _ _ _ _ _ _ _ us hl
  have pm := pmk_oex (X := X) (p := pp) (pos := ppos) D.oex D.ini D.tI F1 hr hb .nil (fun _ _ _ _ _ _ _ h => by
    obtain ⟨_, _, _, _, _, _, _, _, _, _, _, _, z⟩ := h
    exact z.elim) hg gC (pa_cons he pa_nil hst) hdb hst hpl
  refine PS.of (ps_raise hc tk pm) fun DD σ H q => ?_
  unfold dRsI at q
  show onSome (nth σ ix) _
  cases hx : nth σ ix with
  | none => rw [hx] at q; exact q.elim
  | some v =>
    rw [hx] at q
    have q : NewX H [(fld, v)] fun d H2 => W (.ref (He.ga X.K c)) (some d) σ H2 := q
    refine ⟨show 1 ≤ 1000 by decide, fun a ha => ⟨a, v, rfl, upd_same, fun dx hdx hne => ⟨rfl, dx, [(fld, v)], upd_same, by rw [upd_ne hne, upd_same], ?_, ?_⟩⟩⟩
    · rw [upd_ne hne] at hdx; exact hdx
    · rw [upd_ne hne] at hdx
      rw [xi_heap ha hdx hne]
      exact q.go dx hdx
/-! ### e.f, e the exception of the suite -/
structure XfF (K : Frag) (c fld : Str) : Prop where
  xf : XfC K (He.ga K c)
  no : PySem.W.findIn K (.ref (He.ga K c)) fld = some none
def xffB (c fld : Str) (K : Frag) : Bool := xfB K (He.ga K c) && decide (PySem.W.findIn K (.ref (He.ga K c)) fld = some none)
theorem xffB_ok {K : Frag} {c fld : Str} (h : xffB c fld K = true) : XfF K c fld := let ⟨a, b⟩ := He.ba h; ⟨xfB_ok a, of_decide_eq_true b⟩
structure XAt (K : Frag) (H : Hp) (a : Addr) (cls : Value) (d : Option Addr) (c fld : Str) (x : V) (k : V → Prop) : Prop where
  ex : ∃ (dd : Addr) (fs : List (Str × V)) (v : V), x = .ref a ∧ cls = .ref (He.ga K c) ∧ d = some dd ∧ H dd = some (.xd fs) ∧ fs.lookup fld = some v ∧ k v
def dXf (K : Frag) (a : Addr) (cls : Value) (d : Option Addr) (c fld : Str) (te : TE) : TE := fun σ H Q => te σ H fun x H1 => XAt K H1 a cls d c fld x fun v => Q v H1
theorem pe_xfX {X : Cx} {a : Addr} {oe : Obj} {cls : Value} {d : Option Addr} {pn : List (Addr × Obj)} {e : Expr} {te : TE} {pos : Pos} {c fld : Str} (T : XfF X.K c fld) (hz : Zc cls d oe) (hf : ∃ vs, oe.data = .fields vs) (he : PE (X.suite a ((a, oe) :: pn)) e te)
    (hb : attributeBase e fld X.env (eval e X.env) = eval e X.env := by rfl) : PE (X.suite a ((a, oe) :: pn)) (.Attribute e fld pos) (dXf X.K a cls d c fld te) := by
  refine PE.of (pe_xf T.xf T.no hz hf he hb) fun σ H Q q => ?_
  have e : (fun (x : V) (H1 : Hp) => XAt X.K H1 a cls d c fld x fun v => Q v H1) = fun x H1 => x = .ref a ∧ cls = .ref (He.ga X.K c) ∧ ∃ (dd : Addr) (fs : List (Str × V)) (v : V), d = some dd ∧ H1 dd = some (.xd fs) ∧ fs.lookup fld = some v ∧ Q v H1 := by
    funext x H1
    refine propext ⟨fun ⟨dd, fs, v, h1, h2, h3, h4, h5, h6⟩ => ⟨h1, h2, dd, fs, v, h3, h4, h5, h6⟩, fun ⟨h1, h2, dd, fs, v, h3, h4, h5, h6⟩ => ⟨dd, fs, v, h1, h2, h3, h4, h5, h6⟩⟩
  show te σ H _
  rw [← e]
  exact q
/-! ### such a class in the head -/
def cellTo (K : Frag) (cc C : Addr) : Bool := match K.lookup cc with
  | some ⟨_, _, .cell (some (.ref D)), _⟩ => decide (D = C)
  | _ => false
theorem cellTo_ok {K : Frag} {cc C : Addr} (h : cellTo K cc C = true) : ∃ cl cld csl, K.lookup cc = some ⟨cl, cld, .cell (some (.ref C)), csl⟩ := by
  unfold cellTo at h
  split at h
  · rename_i cl cld D csl lc
    have e := of_decide_eq_true h
    subst e
    exact ⟨_, _, _, lc⟩
  · cases h
def codeFile (P : Program) (K : Frag) (cda : Addr) : Bool := match K.lookup cda with
  | some ⟨_, _, .fields vs, _⟩ => (match (vs[2]? : Option Value) with
    | some (.str file _) => ((P.main.file : Str) == file)
    | _ => false)
  | _ => false
theorem codeFile_ok {P : Program} {K : Frag} {cda : Addr} (h : codeFile P K cda = true) : ∃ ccl cdd vs ccs file tf, K.lookup cda = some ⟨ccl, cdd, .fields vs, ccs⟩ ∧ vs[2]? = some (.str file tf) ∧ ((P.main.file : Str) == file) = true := by
  unfold codeFile at h
  split at h
  · rename_i ccl cdd vs ccs lcd
    split at h
    · rename_i file tf hvs
      exact ⟨ccl, cdd, vs, ccs, file, tf, lcd, hvs, h⟩
    · cases h
  · cases h
def cloB (P : Program) (K : Frag) (C : Addr) (code : Value) (clo : List (Str × Addr)) : Bool := match code, clo with
  | .ref cda, [(_, cc)] => cellTo K cc C && codeFile P K cda
  | _, _ => false
theorem cloB_ok {P : Program} {K : Frag} {C : Addr} {code : Value} {clo : List (Str × Addr)} (h : cloB P K C code clo = true) : ∃ cda nm cc, code = .ref cda ∧ clo = [(nm, cc)] ∧ cellTo K cc C = true ∧ codeFile P K cda = true := by
  unfold cloB at h
  split at h
  · obtain ⟨h1, h2⟩ := He.ba h
    exact ⟨_, _, _, rfl, rfl, h1, h2⟩
  · cases h
def fnB (P : Program) (K : Frag) (C fI : Addr) : Bool := match K.lookup fI with
  | some ⟨_, _, .func fd, _⟩ => PySem.W.codeIn K fd.code fd.qualname && (He.dflB K fd.defaults [] && cloB P K C fd.code fd.closure)
  | _ => false
def xiB (P : Program) (c fld : Str) (K : Frag) : Bool := fnB P K (He.ga K c) (He.fAd K (c, some "__init__")) && (decide (PySem.W.mroIn K (He.ga K c) (.ref (He.ga K c)) = some true) && (He.eqO (PySem.W.ks_superIn K (He.ga K c) (He.ga K c) "__init__") (some (some (.builtin "ValueError.__init__"))) &&
    (decide (PySem.W.subIn K (.ref (He.ga K c)) (.type "ValueError") = some true) && (decide (PySem.W.nsIn K cStatics "thirdparty.any" = some none) && (oexB c K && (decide (PySem.W.findIn K (.ref (He.ga K c)) fld = some none) &&
    (He.eqO (PySem.W.findIn K (.ref (He.ga K c)) "__init__") (some (some (.ref (He.fAd K (c, some "__init__"))))) && (decide (PySem.W.typeIn K (.ref (He.fAd K (c, some "__init__"))) = some (.type "function")) && !(P.main.scope.names.lookup ("super" : Str)).isSome))))))))
theorem xi_of {P : Program} {K : Frag} {c fld nm qual : Str} {params : Arguments} {body : List Stmt} {scope : Scope} (e : fnX K (He.fAd K (c, some "__init__")) = some (nm, qual, params, .stmts body, scope, mainGlobals, [(("__class__" : Str), (0 : Addr))], builtinsNs)) (h : xiB P c fld K = true) :
    ∃ fd, XiF P K c fld nm qual params body scope (He.fAd K (c, some "__init__")) fd := by
  obtain ⟨h1, h⟩ := He.ba h
  obtain ⟨h2, h⟩ := He.ba h
  obtain ⟨h3, h⟩ := He.ba h
  obtain ⟨h4, h⟩ := He.ba h
  obtain ⟨h5, h⟩ := He.ba h
  obtain ⟨h6, h⟩ := He.ba h
  obtain ⟨h7, h⟩ := He.ba h
  obtain ⟨h8, h⟩ := He.ba h
  obtain ⟨h9, h10⟩ := He.ba h
  unfold fnX at e
  unfold fnB at h1
  cases lk : K.lookup (He.fAd K (c, some "__init__")) with
  | none => rw [lk] at e; cases e
  | some o =>
    rw [lk] at e h1
    obtain ⟨oc, od, dat, osl⟩ := o
    cases dat <;> try cases e
    rename_i fd
    obtain ⟨k1, k0⟩ := He.ba h1
    obtain ⟨kd, k2⟩ := He.ba k0
    obtain ⟨n1, n2, n3, n4, n5, n6, n7, n8, n9, n10, n11, n12, n13, n14, n15⟩ := fd
    simp only [Option.some.injEq, Prod.mk.injEq] at e
    obtain ⟨e1, e2, e3, e4, e5, e6, e7, e8⟩ := e
    subst e1 e2 e3 e4 e5 e6 e8
    dsimp only at k1 k2 kd
    have hdn : n8 = Value.none := by
      rcases He.dflB_ok kd with ⟨_, z⟩ | ⟨z, _⟩
      · exact z
      · exact absurd rfl z
    subst hdn
    obtain ⟨cda, nmc, cc, ec, eclo, h3', h4'⟩ := cloB_ok k2
    subst ec eclo
    have enm : nmc = "__class__" := by simpa using e7
    subst enm
    exact ⟨_, ⟨⟨oc, od, osl, _, _, _, _, cda, _, cc, rfl, lk, k1, cellTo_ok h3', codeFile_ok h4'⟩, of_decide_eq_true h2, He.eqO_ok h3, of_decide_eq_true h4, of_decide_eq_true h5, oexB_ok h6, of_decide_eq_true h7, He.eqO_ok h8, of_decide_eq_true h9, by simpa using h10⟩⟩
end S
namespace S
open PySem PySem.Spec PyProof.Rows L2
/-! ### x not in o, o with its own __contains__ -/
section
variable {X : Cx} {k : Nat} {g : Addr} {sp : Sp} {E : XK} {c : Str}
def oNinO (K : Frag) (c : Str) (sp : Sp) (E : XK) : R2 := fun x y H Q => match y with
  | .ref a => IsO K H c a (sp [.ref a, x] H (isB fun b H' => Q (.bl (!b)) H') E)
  | _ => False
theorem op_ninO (hm : Meth X.K (He.ga X.K c) "__contains__" g) (F : FnR X.prog X.w X.K X.mg X.base (L2.CX X.prog X.w) k g sp) (hr : Room k X.A) (hx : ∀ σ, PassesAt (L2.CX X.prog X.w) X σ E) : OpR X (compareOp .NotIn) (oNinO X.K c sp E) := by
  intro pins s σ H x y v u Q I rx ry q
  cases y <;> try exact q.elim
  cases ry
  obtain ⟨⟨dx, vs, hsl⟩, q⟩ := q
  obtain ⟨sl, od, _, J, _⟩ := SlX.slt_inst I hsl
  obtain ⟨m, hF⟩ := I.fr
  refine PySem.W.notIn_K hF I.ok.mod.kin J hm.at_ hm.fn ?_
  refine wpAny_mono (run_R (us := [.ref _, v]) (vs := [.ref _, x]) (E := fun _ => E) F hr (hx σ) I (.cons rfl (.cons rx .nil)) q) (fun w s' z => ?_) fun _ _ x => x
  obtain ⟨z', H', I', rz, qz⟩ := z
  obtain ⟨b, e, qz⟩ := isB_ex qz
  subst e
  cases rz
  exact wpAny_truthy_bool ⟨.bl (!b), H', I', rfl, qz⟩
end
/-! ### n.bit_length() -/
def dBits (to : TE) : TE := fun σ H Q => to σ H fun x H1 => match x with
  | .int i => Q (.int (Builtin.Int.intBits i : Nat)) H1
  | _ => False
theorem pe_bitsX {X : Cx} {o : Expr} {to : TE} {apos pos : Pos} (ho : PE X o to) (hbase : attributeBase o "bit_length" X.env (eval o X.env) = eval o X.env := by rfl) (hline : (apos.endLine == pos.line) = true := by rfl) : PE X (.Call (.Attribute o "bit_length" apos) [] [] pos) (dBits to) := by
  refine PE.of (pe_bits ho hbase hline) fun σ H Q q => ?_
  have e : (fun (x : V) (H1 : Hp) => (match x with
      | .int i => Q (.int (Builtin.Int.intBits i : Nat)) H1
      | _ => False : Prop)) = fun x H1 => ∃ i, x = .int i ∧ Q (.int (Builtin.Int.intBits i : Nat)) H1 := by
    funext x H1
    refine propext ⟨fun h => ?_, fun ⟨i, h1, h2⟩ => by subst h1; exact h2⟩
    cases x <;> try exact h.elim
    exact ⟨_, rfl, h⟩
  show to σ H _
  rw [← e]
  exact q
/-- the least width of a number -/
def widI (i : Int) : Nat := Builtin.Int.intBits (if i < 0 then -i - 1 else i) + 1
theorem bits_lt {i : Int} (h : 0 ≤ i) : i < 2 ^ Builtin.Int.intBits i := by
  unfold Builtin.Int.intBits
  by_cases h0 : i = 0
  · subst h0; decide
  · rw [if_neg (by simpa using h0)]
    have h1 : i.natAbs < 2 ^ (i.natAbs.log2 + 1) := Nat.lt_log2_self
    have h2 : ((2 : Int) ^ (i.natAbs.log2 + 1)) = ((2 ^ (i.natAbs.log2 + 1) : Nat) : Int) := by simp
    rw [h2]; omega
theorem bits_le {i : Int} (h : 0 ≤ i) (h1 : 0 < Builtin.Int.intBits i) : (2 ^ (Builtin.Int.intBits i - 1) : Int) ≤ i := by
  unfold Builtin.Int.intBits at h1 ⊢
  by_cases h0 : i = 0
  · subst h0; exact absurd h1 (by decide)
  · rw [if_neg (by simpa using h0)]
    have h3 : 2 ^ i.natAbs.log2 ≤ i.natAbs := Nat.log2_self_le (by omega)
    have h2 : ((2 : Int) ^ (i.natAbs.log2 + 1 - 1)) = ((2 ^ i.natAbs.log2 : Nat) : Int) := by simp
    rw [h2]; omega
theorem widI_pos (i : Int) : 1 ≤ widI i := by unfold widI; omega
theorem widI_fit (i : Int) : -(2 ^ (widI i - 1) : Int) ≤ i ∧ i < 2 ^ (widI i - 1) := by
  unfold widI
  rw [Nat.add_sub_cancel]
  by_cases h : i < 0
  · rw [if_pos h]
    have := bits_lt (i := -i - 1) (by omega)
    omega
  · rw [if_neg h]
    have := bits_lt (i := i) (by omega)
    omega
theorem widI_least {i : Int} (h : 1 < widI i) : i < -(2 ^ (widI i - 2) : Int) ∨ (2 ^ (widI i - 2) : Int) ≤ i := by
  unfold widI at h ⊢
  by_cases h0 : i < 0
  · rw [if_pos h0] at h ⊢
    have := bits_le (i := -i - 1) (by omega) (by omega)
    have e : Builtin.Int.intBits (-i - 1) + 1 - 2 = Builtin.Int.intBits (-i - 1) - 1 := by omega
    rw [e]; omega
  · rw [if_neg h0] at h ⊢
    have := bits_le (i := i) (by omega) (by omega)
    have e : Builtin.Int.intBits i + 1 - 2 = Builtin.Int.intBits i - 1 := by omega
    rw [e]; omega
end S
namespace S
open PySem PySem.Spec PyProof.Rows L2
/-! ### range(a, b, -1) -/
def iR3 (vs : List V) (H : Hp) (R : It → Hp → Prop) : Prop := match vs with
  | [.int i, .int j, .int c] => Need (c = -1) (Need (-(2 ^ 62) ≤ i ∧ i < 2 ^ 62 ∧ -(2 ^ 62) ≤ j ∧ j < 2 ^ 62) (R (Itc i (-1) (i - j).toNat) H))
  | _ => False
def iRngD (ta : TA) : TI := fun σ H R => ta σ H fun vs H1 => iR3 vs H1 R
theorem pi_rngD {X : Cx} {tg a b c : Expr} {ta : TA} {p pos : Pos} (hg : Gl X "range") (hm : X.mg "range" = none) (ha : PA X [a, b, c] ta)
    (hs : starEach [a, b, c] X.env = (false, eval a X.env) :: starEach [b, c] X.env := by rfl) (hpl : (backTo pos (starEach [b, c] X.env)).any (·.1) = false := by rfl) :
    PI X tg (.Call (.Name "range" p) [a, b, c] [] pos) (iRngD ta) := by
  refine ⟨fun pins s σ H R I h => ?_⟩
  refine Call_ (ld_blt I hg hm boot_range (PyProof.Rows.callWith_type1 (thn (ha.run pos pins s σ H _ I h) fun us s1 ⟨vs, H1, I1, r1, q1⟩ => ?_) hs hpl))
  match vs, q1 with
  | [.int i, .int j, .int k], ⟨e, ⟨q1, q2, q3, q4⟩, q⟩ =>
    subst e
    obtain ⟨c0, c1, c2, c3⟩ := RgC.neg q1 q2 q3 q4
    cases r1 with
    | cons r rr =>
      cases rr with
      | cons r' rr =>
        cases rr with
        | cons r'' rr =>
          cases rr
          obtain ⟨t, rfl⟩ := r
          obtain ⟨t', rfl⟩ := r'
          obtain ⟨t'', rfl⟩ := r''
          refine call_range_3 c0 ?_ (.inl (PyProof.noPylong_small c1))
          refine wpAny_pyIter_range (IsRange.new ..) c2 ?_
          have I2 : Inv X pins σ H1 { s1 with heap := s1.heap.push { cls := .type "range", data := .fields #[.int i t, .int j t', .int (-1) t''] } } := I1.kept (t' := s1.toks) fun b o e => Heap.get?_push_of_some _ e
          refine pi_one (tk := s1.toks) I2 _ (turn_rangeC _ i (-1) (i - j).toNat) ?_ q
          have e1 : i + ((0 : Nat) : Int) * (-1) = i := by simp
          have e2 : (((i - j).toNat : Nat) : Int) - ((0 : Nat) : Int) = Builtin.Range.rangeSize i j (-1) := by rw [c3]; simp
          show IsRangeIter _ _ (i + ((0 : Nat) : Int) * (-1)) ((((i - j).toNat : Nat) : Int) - ((0 : Nat) : Int)) (-1)
          rw [e1, e2]
          exact Heap.get?_push_size _ rfl
theorem for_rngD {a b : Int} {g : TG} {tb : TS} {D : Ends} {σ : L2.St} {H : Hp} (Pv : Nat → L2.St → Hp → Prop) (h0 : Pv 0 σ H)
    (hs : ∀ (i : Nat) σ H, b < a - (i : Int) → Pv i σ H → g (.int (a - i)) σ H fun σ2 H2 => tb { D with nx := Pv (i + 1), ct := Pv (i + 1), bk := D.nx } σ2 H2) (hd : ∀ σ H, Pv (a - b).toNat σ H → D.nx σ H) :
    LoopR D g tb σ (Itc a (-1) (a - b).toNat) H := by
  refine L2.for_rangeC (lo := a) Pv h0 (fun i σ H hi q => ?_) hd
  have z := hs i σ H (by omega) q
  have e : a + (i : Int) * (-1) = a - i := by omega
  rw [e]; exact z
/-! ### the head, its looks one by one -/
theorem run_split {σ β γ : Type} {o : Option σ} {f1 f2 f3 f4 : σ → Bool} {g : σ → β} {h : σ → γ} {v2 : β} {v3 : γ} (h1 : o.map f1 = some true) (h2 : o.map f2 = some true) (h3 : o.map f3 = some true) (h4 : o.map f4 = some true) (h5 : o.map g = some v2) (h6 : o.map h = some v3) :
    o.map (fun s => (f1 s && f2 s && f3 s && f4 s, g s, h s)) = some (true, v2, v3) := by
  cases o with
  | none => cases h1
  | some s =>
    have e1 : f1 s = true := Option.some.inj h1
    have e2 : f2 s = true := Option.some.inj h2
    have e3 : f3 s = true := Option.some.inj h3
    have e4 : f4 s = true := Option.some.inj h4
    have e5 : g s = v2 := Option.some.inj h5
    have e6 : h s = v3 := Option.some.inj h6
    show some (f1 s && f2 s && f3 s && f4 s, g s, h s) = _
    rw [e1, e2, e3, e4, e5, e6]; rfl
end S
namespace S
open PySem PySem.Spec PyProof.Rows L2
/-! ### i op x, x an instance with its own reflected op -/
theorem int_decl {nm : String} {f : Int → Int → Sem PySem.Fin} {i : Int} {t : Tok} {x : Addr} : GivesAt (fun s => ∃ ox : Obj, s.heap.get? x = some ox ∧ ∀ v, ox.data ≠ .prim v) (Builtin.Int.intBinary nm f false ⟨[.int i t, .ref x], []⟩) (.val Value.notImplemented) := by
  rintro prog w A R s ⟨ox, hx, hd⟩ h
  unfold Builtin.Int.intBinary
  have s1 : slotArgs nm 1 ⟨[.int i t, .ref x], []⟩ = pure (.int i t, [.ref x]) := by
    unfold slotArgs
    rfl
  rw [s1]
  refine wpAny_bind (wpAny_pure ?_)
  dsimp only
  have s2 : Builtin.Int.intOfSelf (.int i t) = pure i := by
    unfold Builtin.Int.intOfSelf asInt?
    rfl
  rw [s2]
  refine wpAny_bind (wpAny_pure ?_)
  dsimp only [List.headD_cons]
  unfold asInt?
  refine wpAny_bind (wpAny_bind (wpAny_load hx ?_))
  split
  · rename_i hq
    exact absurd hq (hd _)
  · refine wpAny_pure ?_
    exact wpAny_bind (wpAny_rule (wpAny_pure h))
section
variable {prog : Program} {w : World} {A : Around} {E : Value → Shared → Prop} {s : Shared} {K : Frag} {x C L f g : Addr} {h₀ : Heap} {m : Str → Option Value} {ox : Obj} {od : Option Obj}
theorem binR {op : Operator} {i : Int} {t : Tok} {idl : String} {B : Builtin} {Q : Value → Shared → Prop} (X : K.In s.heap) (I : PySem.W.InstAt s.heap x ox C od) (hd : ∀ v, ox.data ≠ .prim v) (hc : PySem.W.selfFirst K C = true)
    (hs : PySem.W.findIn K (.ref C) (PySem.dunder op.info.2) = some (some (.ref g))) (hr : PySem.W.findIn K (.ref C) (PySem.dunderR op.info.2) = some (some (.ref f))) (hf : PySem.W.isFn K (.ref f) = true)
    (hfi : fillsNumberSlot (.type "int") op.info.2 = pure true) (slot : Slot "int" (PySem.dunder op.info.2) idl) (entry : entryFor table idl = some B) (args : argsOk idl ⟨[.int i t, .ref x], []⟩)
    (gv : GivesAt (fun s => ∃ ox : Obj, s.heap.get? x = some ox ∧ ∀ v, ox.data ≠ .prim v) (B ⟨[.int i t, .ref x], []⟩) (.val Value.notImplemented)) (hsub : PySem.W.subIn K (.ref C) (.type "int") = some false)
    (h : wpAny (model prog w) A (call (.ref f) [.ref x, .int i t]) (PySem.W.CmpBack Q) E s) : wpAny (model prog w) A (binaryOp op (.int i t) (.ref x)) Q E s := by
  obtain ⟨cd, rest, hcd, hm⟩ := PySem.W.ksp_first hc
  rcases hi : op.info with ⟨sym, nm'⟩
  rw [hi] at hs hr hfi slot
  dsimp only at hs hr hfi slot
  have one := PySem.W.ksp_try X I hr hf h
  have L2 : PySem.W.Looks (model prog w) s.heap (typeOf (.ref x)) (.ref C) := I.type
  have L4 : PySem.W.Looks (model prog w) s.heap (fillsNumberSlot (.ref C) nm') true := PySem.W.fills_K X hcd hm hs
  have L5 : PySem.W.Looks (model prog w) s.heap (isSubtype (.ref C) (.type "int")) false := PySem.W.looks_subIn X hsub
  have hne : (Value.type "int" == Value.ref C) = false := Bool.eq_false_iff.mpr fun q => by cases beq_iff_eq.mp q
  have hpy : numberSlotInPython (.type "int") nm' = pure false := rfl
  simp only [binaryOp, hi]
  refine wpAny_holding (wpAny_bind ?_)
  unfold binaryOp1
  refine wpAny_bind (wpAny_of_eq (show typeOf (.int i t) = pure (.type "int") from rfl) (wpAny_bind (L2.here (wpAny_bind (wpAny_of_eq hfi ?_)))))
  simp only [hne, Bool.false_eq_true, if_false]
  refine wpAny_bind (L4.here ?_)
  simp only [Bool.and_self, if_true]
  refine wpAny_bind (L5.here ?_)
  simp only [Bool.false_eq_true, if_false, pure_bind, Bool.not_false, Bool.and_self, if_true, hpy]
  refine wpAny_bind (wpAny_tryMethod_declines (T := "int") rfl slot (call_givesAt slot rfl entry args gv ⟨ox, I.at_, hd⟩ ⟨rfl, ?_⟩))
  refine wpAny_bind (wpAny_mono one (fun r s' hr' => ?_) fun _ _ e => e)
  obtain ⟨v, rfl, hq⟩ := hr'
  exact wpAny_bind (wpAny_rule (wpAny_pure (wpAny_pure hq)))
end
theorem sub_int {K : Frag} {a : Addr} : PySem.W.subIn K (.type "int") (.ref a) = some false := by
  show (PySem.fastBuiltinMro "int").map (·.contains (.ref a)) = _
  obtain ⟨l, hl⟩ := Option.isSome_iff_exists.mp (show (PySem.fastBuiltinMro "int").isSome = true by decide)
  rw [hl]
  unfold PySem.fastBuiltinMro at hl
  obtain ⟨r, _, rfl⟩ := Option.map_eq_some_iff.mp hl
  rw [Option.map_some]
  congr 1
  rw [Bool.eq_false_iff]
  intro z
  rw [List.contains_iff_mem, List.mem_map] at z
  obtain ⟨_, _, e⟩ := z
  cases e
/-- what int has for an operator; that it declines an instance -/
structure IntOp (op : Operator) : Prop where
  ex : ∃ (fo ro : Option Value) (idl : String) (B : Builtin), (∀ K : Frag, PySem.W.findIn K (.type "int") (PySem.dunder op.info.2) = some fo) ∧ (∀ K : Frag, PySem.W.findIn K (.type "int") (PySem.dunderR op.info.2) = some ro) ∧
    fillsNumberSlot (.type "int") op.info.2 = pure true ∧ Slot "int" (PySem.dunder op.info.2) idl ∧ entryFor table idl = some B ∧ (∀ a b : Value, argsOk idl ⟨[a, b], []⟩) ∧
    ∀ (i : Int) (t : Tok) (x : Addr), GivesAt (fun s => ∃ ox : Obj, s.heap.get? x = some ox ∧ ∀ v, ox.data ≠ .prim v) (B ⟨[.int i t, .ref x], []⟩) (.val Value.notImplemented)
theorem int_add : IntOp .Add := ⟨some (.builtin "int.__add__"), some (.builtin "int.__radd__"), _, _, fun _ => by show PySem.fastLookup "int" "__add__" = _; kernel_rfl, fun _ => by show PySem.fastLookup "int" "__radd__" = _; kernel_rfl, PySem.F.fills_int_add, PySem.F.slot_int_add, PySem.F.entry_int_add, fun a b => PySem.F.args_int_add_2 a b, fun i t x => int_decl⟩
theorem int_sub : IntOp .Sub := ⟨some (.builtin "int.__sub__"), some (.builtin "int.__rsub__"), _, _, fun _ => by show PySem.fastLookup "int" "__sub__" = _; kernel_rfl, fun _ => by show PySem.fastLookup "int" "__rsub__" = _; kernel_rfl, PySem.F.fills_int_sub, PySem.F.slot_int_sub, PySem.F.entry_int_sub, fun a b => PySem.F.args_int_sub_2 a b, fun i t x => int_decl⟩
theorem int_mul : IntOp .Mult := ⟨some (.builtin "int.__mul__"), some (.builtin "int.__rmul__"), _, _, fun _ => by show PySem.fastLookup "int" "__mul__" = _; kernel_rfl, fun _ => by show PySem.fastLookup "int" "__rmul__" = _; kernel_rfl, PySem.F.fills_int_mul, PySem.F.slot_int_mul, PySem.F.entry_int_mul, fun a b => PySem.F.args_int_mul_2 a b, fun i t x => int_decl⟩
section
variable {X : Cx} {k kR : Nat} {g gR : Addr} {sp spR : Sp} {E : XK} {c : Str} {ups : List Str} {tys : List String}
/-- x op y: an instance of c ahead (an instance or an int behind), or an int ahead of an instance (its reflected op); r: of other values -/
def oOwnI (K : Frag) (c : Str) (sp spR : Sp) (E : XK) (r : R2) : R2 := fun x y H Q => match x, y with
  | .ref a, .ref b => IsO K H c a (IsO K H c b (sp [.ref a, .ref b] H Q E))
  | .ref a, .int i => IsO K H c a (sp [.ref a, .int i] H Q E)
  | .int i, .ref b => IsO K H c b (spR [.ref b, .int i] H Q E)
  | x, y => r x y H Q
theorem op_ownI {op : Operator} {r : R2} (iop : IntOp op) (mf : MF X.K c ups tys) (hty : "int" ∉ tys) (hm : Meth X.K (He.ga X.K c) (PySem.dunder op.info.2) g) (hmR : Meth X.K (He.ga X.K c) (PySem.dunderR op.info.2) gR)
    (F : FnR X.prog X.w X.K X.mg X.base (L2.CX X.prog X.w) k g sp) (FR' : FnR X.prog X.w X.K X.mg X.base (L2.CX X.prog X.w) kR gR spR) (hr : Room k X.A) (hrR : Room kR X.A) (hx : ∀ σ, PassesAt (L2.CX X.prog X.w) X σ E) (h0 : OpR X (binaryOp op) r) : OpR X (binaryOp op) (oOwnI X.K c sp spR E r) := by
  obtain ⟨fo, ro, idl, B, f1, f2, fi, slot, entry, args, gv⟩ := iop.ex
  have hsub : PySem.W.subIn X.K (.ref (He.ga X.K c)) (.type "int") = some false := by
    rw [mf_sub mf]
    congr 1
    rw [decide_eq_false_iff_not]
    intro z
    rcases List.mem_append.mp z with z | z
    · obtain ⟨_, _, e⟩ := List.mem_map.mp z
      cases e
    · obtain ⟨y, hy, e⟩ := List.mem_map.mp z
      cases e
      exact hty hy
  intro pins s σ H x y v u Q I rx ry q
  have own : ∀ a b, x = .ref a → y = .ref b → IsO X.K H c a (IsO X.K H c b (sp [.ref a, .ref b] H Q E)) → wpAny (model X.prog X.w) X.A (binaryOp op v u) (EP X pins σ Q) X.xe s := by
    intro a b ex ey q
    subst ex ey
    cases rx
    cases ry
    obtain ⟨⟨dx, vs, hsl⟩, ⟨⟨dy, ws, hsl2⟩, q⟩⟩ := q
    obtain ⟨sl, od, _, J, _⟩ := SlX.slt_inst I hsl
    obtain ⟨sl', od', _, J', _⟩ := SlX.slt_inst I hsl2
    obtain ⟨m, hF⟩ := I.fr
    refine PySem.W.binop_K hF I.ok.mod.kin J J'.type (mf_first mf) hm.at_ hm.fn ?_
    refine wpAny_mono (run_op (us := [.ref a, .ref b]) (vs := [.ref a, .ref b]) F hr I.env0 hx I (.cons rfl (.cons rfl .nil)) q) (fun w s' z => ?_) fun _ _ x => x
    obtain ⟨z', H', I', rz, qz⟩ := z
    exact SlX.cmpback rz ⟨z', H', I', rz, qz⟩
  have left : ∀ a i, x = .ref a → y = .int i → IsO X.K H c a (sp [.ref a, .int i] H Q E) → wpAny (model X.prog X.w) X.A (binaryOp op v u) (EP X pins σ Q) X.xe s := by
    intro a i ex ey q
    subst ex ey
    cases rx
    obtain ⟨t, rfl⟩ := ry
    obtain ⟨⟨dx, vs, hsl⟩, q⟩ := q
    obtain ⟨sl, od, _, J, _⟩ := SlX.slt_inst I hsl
    obtain ⟨m, hF⟩ := I.fr
    refine PySem.W.ksp_binT (T := "int") hF I.ok.mod.kin J rfl (mf_first mf) hm.at_ hm.fn hmR.at_ (.inr ⟨_, rfl⟩) (f1 _) (f2 _) sub_int ?_
    refine wpAny_mono (run_op (us := [.ref a, .int i t]) (vs := [.ref a, .int i]) F hr I.env0 hx I (.cons rfl (.cons ⟨t, rfl⟩ .nil)) q) (fun w s' z => ?_) fun _ _ x => x
    obtain ⟨z', H', I', rz, qz⟩ := z
    exact SlX.cmpback rz ⟨z', H', I', rz, qz⟩
  have right : ∀ i b, x = .int i → y = .ref b → IsO X.K H c b (spR [.ref b, .int i] H Q E) → wpAny (model X.prog X.w) X.A (binaryOp op v u) (EP X pins σ Q) X.xe s := by
    intro i b ex ey q
    subst ex ey
    obtain ⟨t, rfl⟩ := rx
    cases ry
    obtain ⟨⟨dx, vs, hsl⟩, q⟩ := q
    obtain ⟨sl, od, _, J, _⟩ := SlX.slt_inst I hsl
    obtain ⟨m, hF⟩ := I.fr
    refine binR (I.ok.mod.kin.keeps hF.keep) J (fun v z => by cases z) (mf_first mf) hm.at_ hmR.at_ hmR.fn fi slot entry (args _ _) (gv _ _ _) hsub ?_
    refine wpAny_mono (run_op (us := [.ref b, .int i t]) (vs := [.ref b, .int i]) FR' hrR I.env0 hx I (.cons rfl (.cons ⟨t, rfl⟩ .nil)) q) (fun w s' z => ?_) fun _ _ x => x
    obtain ⟨z', H', I', rz, qz⟩ := z
    exact SlX.cmpback rz ⟨z', H', I', rz, qz⟩
  cases x <;> cases y <;> first | exact own _ _ rfl rfl q | exact left _ _ rfl rfl q | exact right _ _ rfl rfl q | exact h0 pins s σ H _ _ v u Q I rx ry q
/-- the same with an instance ahead alone -/
def oOwnL (K : Frag) (c : Str) (sp : Sp) (E : XK) (r : R2) : R2 := fun x y H Q => match x, y with
  | .ref a, .ref b => IsO K H c a (IsO K H c b (sp [.ref a, .ref b] H Q E))
  | .ref a, .int i => IsO K H c a (sp [.ref a, .int i] H Q E)
  | x, y => r x y H Q
theorem op_ownL {op : Operator} {r : R2} (iop : IntOp op) (mf : MF X.K c ups tys) (hm : Meth X.K (He.ga X.K c) (PySem.dunder op.info.2) g) (hmR : Meth X.K (He.ga X.K c) (PySem.dunderR op.info.2) gR)
    (F : FnR X.prog X.w X.K X.mg X.base (L2.CX X.prog X.w) k g sp) (hr : Room k X.A) (hx : ∀ σ, PassesAt (L2.CX X.prog X.w) X σ E) (h0 : OpR X (binaryOp op) r) : OpR X (binaryOp op) (oOwnL X.K c sp E r) := by
  obtain ⟨fo, ro, idl, B, f1, f2, fi, slot, entry, args, gv⟩ := iop.ex
  intro pins s σ H x y v u Q I rx ry q
  have own : ∀ a b, x = .ref a → y = .ref b → IsO X.K H c a (IsO X.K H c b (sp [.ref a, .ref b] H Q E)) → wpAny (model X.prog X.w) X.A (binaryOp op v u) (EP X pins σ Q) X.xe s := by
    intro a b ex ey q
    subst ex ey
    cases rx
    cases ry
    obtain ⟨⟨dx, vs, hsl⟩, ⟨⟨dy, ws, hsl2⟩, q⟩⟩ := q
    obtain ⟨sl, od, _, J, _⟩ := SlX.slt_inst I hsl
    obtain ⟨sl', od', _, J', _⟩ := SlX.slt_inst I hsl2
    obtain ⟨m, hF⟩ := I.fr
    refine PySem.W.binop_K hF I.ok.mod.kin J J'.type (mf_first mf) hm.at_ hm.fn ?_
    refine wpAny_mono (run_op (us := [.ref a, .ref b]) (vs := [.ref a, .ref b]) F hr I.env0 hx I (.cons rfl (.cons rfl .nil)) q) (fun w s' z => ?_) fun _ _ x => x
    obtain ⟨z', H', I', rz, qz⟩ := z
    exact SlX.cmpback rz ⟨z', H', I', rz, qz⟩
  have left : ∀ a i, x = .ref a → y = .int i → IsO X.K H c a (sp [.ref a, .int i] H Q E) → wpAny (model X.prog X.w) X.A (binaryOp op v u) (EP X pins σ Q) X.xe s := by
    intro a i ex ey q
    subst ex ey
    cases rx
    obtain ⟨t, rfl⟩ := ry
    obtain ⟨⟨dx, vs, hsl⟩, q⟩ := q
    obtain ⟨sl, od, _, J, _⟩ := SlX.slt_inst I hsl
    obtain ⟨m, hF⟩ := I.fr
    refine PySem.W.ksp_binT (T := "int") hF I.ok.mod.kin J rfl (mf_first mf) hm.at_ hm.fn hmR.at_ (.inr ⟨_, rfl⟩) (f1 _) (f2 _) sub_int ?_
    refine wpAny_mono (run_op (us := [.ref a, .int i t]) (vs := [.ref a, .int i]) F hr I.env0 hx I (.cons rfl (.cons ⟨t, rfl⟩ .nil)) q) (fun w s' z => ?_) fun _ _ x => x
    obtain ⟨z', H', I', rz, qz⟩ := z
    exact SlX.cmpback rz ⟨z', H', I', rz, qz⟩
  cases x <;> cases y <;> first | exact own _ _ rfl rfl q | exact left _ _ rfl rfl q | exact h0 pins s σ H _ _ v u Q I rx ry q
end
end S
namespace S
open PySem PySem.Spec PyProof.Rows L2
/-! ### abs of an instance with its own __abs__ -/
section
variable {X : Cx} {k : Nat} {g : Addr} {sp : Sp} {E : XK} {c : Str} {ups : List Str} {tys : List String}
def cAbsO (K : Frag) (c : Str) (sp : Sp) (E : XK) : List V → Hp → VK → Prop := fun xs H Q => match xs with
  | [.int i] => Q (.int (i.natAbs : Int)) H
  | [.ref p] => IsO K H c p (sp [.ref p] H Q E)
  | _ => False
theorem c_absO (hm : Meth X.K (He.ga X.K c) "__abs__" g) (F : FnR X.prog X.w X.K X.mg X.base (L2.CX X.prog X.w) k g sp) (hr : Room (k + 1) X.A) (hx : ∀ σ, PassesAt (L2.CX X.prog X.w) X σ E) : CallR X (.builtin "abs") (cAbsO X.K c sp E) := by
  intro pins s σ H xs us Q I r h
  match xs, h with
  | [.int i], h => exact (c_abs (X := X)) pins s σ H _ us Q I r h
  | [.ref p], ⟨⟨dx, vs, hsl⟩, q⟩ =>
    obtain ⟨u, rfl, rfl⟩ := r.one
    obtain ⟨sl, od, _, J, _⟩ := SlX.slt_inst I hsl
    obtain ⟨m, hF⟩ := I.fr
    have hr2 : Room k X.A.in1 := Room.in1 hr
    refine Calls.call_function_entry kind_abs plain_abs entry_abs (args_abs _) ?_
    unfold Builtin.«abs»
    refine wpAny_bind (m := oneArg "abs" _) (wpAny_pure ?_)
    refine wpAny_bind (PySem.W.special_fn I.kIn J hm.at_ (beq_iff_eq.mp hm.fn) ?_)
    refine wpAny_mono (run_op (us := [.ref p]) (vs := [.ref p]) F hr2 I.env0.in1 hx I (.cons rfl .nil) q) (fun w s' z => ?_) fun _ _ x => x
    exact wpAny_pure ⟨_, rfl, z⟩
end
/-! ### x op i, x an instance whose class has no reflected op -/
structure IntOpN (op : Operator) : Prop where
  ex : ∃ (fo ro : Option Value), (∀ K : Frag, PySem.W.findIn K (.type "int") (PySem.dunder op.info.2) = some fo) ∧ (∀ K : Frag, PySem.W.findIn K (.type "int") (PySem.dunderR op.info.2) = some ro)
theorem intN_shl : IntOpN .LShift := ⟨some (.builtin "int.__lshift__"), some (.builtin "int.__rlshift__"), fun _ => by show PySem.fastLookup "int" "__lshift__" = _; kernel_rfl, fun _ => by show PySem.fastLookup "int" "__rlshift__" = _; kernel_rfl⟩
theorem intN_shr : IntOpN .RShift := ⟨some (.builtin "int.__rshift__"), some (.builtin "int.__rrshift__"), fun _ => by show PySem.fastLookup "int" "__rshift__" = _; kernel_rfl, fun _ => by show PySem.fastLookup "int" "__rrshift__" = _; kernel_rfl⟩
def NoM (K : Frag) (c m : Str) : Prop := PySem.W.findIn K (.ref (He.ga K c)) m = some none
def noMB (c m : Str) (K : Frag) : Bool := He.eqO (PySem.W.findIn K (.ref (He.ga K c)) m) (some none)
theorem noMB_ok {K : Frag} {c m : Str} (h : noMB c m K = true) : NoM K c m := He.eqO_ok h
section
variable {X : Cx} {k : Nat} {g : Addr} {sp : Sp} {E : XK} {c : Str} {ups : List Str} {tys : List String}
def oOwnN (K : Frag) (c : Str) (sp : Sp) (E : XK) (r : R2) : R2 := fun x y H Q => match x, y with
  | .ref a, .int i => IsO K H c a (sp [.ref a, .int i] H Q E)
  | x, y => r x y H Q
theorem op_ownN {op : Operator} {r : R2} (iop : IntOpN op) (mf : MF X.K c ups tys) (hm : Meth X.K (He.ga X.K c) (PySem.dunder op.info.2) g) (hn : NoM X.K c (PySem.dunderR op.info.2))
    (F : FnR X.prog X.w X.K X.mg X.base (L2.CX X.prog X.w) k g sp) (hr : Room k X.A) (hx : ∀ σ, PassesAt (L2.CX X.prog X.w) X σ E) (h0 : OpR X (binaryOp op) r) : OpR X (binaryOp op) (oOwnN X.K c sp E r) := by
  obtain ⟨fo, ro, f1, f2⟩ := iop.ex
  intro pins s σ H x y v u Q I rx ry q
  have left : ∀ a i, x = .ref a → y = .int i → IsO X.K H c a (sp [.ref a, .int i] H Q E) → wpAny (model X.prog X.w) X.A (binaryOp op v u) (EP X pins σ Q) X.xe s := by
    intro a i ex ey q
    subst ex ey
    cases rx
    obtain ⟨t, rfl⟩ := ry
    obtain ⟨⟨dx, vs, hsl⟩, q⟩ := q
    obtain ⟨sl, od, _, J, _⟩ := SlX.slt_inst I hsl
    obtain ⟨m, hF⟩ := I.fr
    refine PySem.W.ksp_binT (T := "int") hF I.ok.mod.kin J rfl (mf_first mf) hm.at_ hm.fn hn (.inl rfl) (f1 _) (f2 _) sub_int ?_
    refine wpAny_mono (run_op (us := [.ref a, .int i t]) (vs := [.ref a, .int i]) F hr I.env0 hx I (.cons rfl (.cons ⟨t, rfl⟩ .nil)) q) (fun w s' z => ?_) fun _ _ x => x
    obtain ⟨z', H', I', rz, qz⟩ := z
    exact SlX.cmpback rz ⟨z', H', I', rz, qz⟩
  cases x <;> cases y <;> first | exact left _ _ rfl rfl q | exact h0 pins s σ H _ _ v u Q I rx ry q
end
/-! ### == of two tuples of instances with their own == -/
section
variable {prog : Program} {w : World} {A : Around} {R : Result → Shared → Prop}
theorem tuple_eqB (l b : Addr) (items items2 : Array Value) (n n2 : Nat) (dd dd2 : Option Addr) (sl sl2 : Array (Option Value)) (bs : Nat → Bool) (I : Nat → Shared → Prop)
    (turn : ∀ i (h1 : i < items.size) (h2 : i < items2.size) s, I i s → wpAny (model prog w) A.in1 (eqBool items[i] items2[i]) (fun r s' => r = bs i ∧ I (i + 1) s') (fun e s' => R (.error e) s') s)
    (fin : ∀ i s (r : Bool), I i s → (r = true ↔ items.size = items2.size ∧ ∀ j, j < items.size → bs j = true) → R (.ok (.ret (.bool r))) s) {s : Shared}
    (hl1 : s.heap.get? l = some { cls := .type "tuple", dict := dd, data := .seq items n, slots := sl }) (hb1 : s.heap.get? b = some { cls := .type "tuple", dict := dd2, data := .seq items2 n2, slots := sl2 }) (h : I 0 s) :
    wpAny (model prog w) A.in1 (Builtin.«tuple.__eq__» ⟨[.ref l, .ref b], []⟩) (GQ.FinOf prog w A R) (fun e s' => R (.error e) s') s := by
  have f2 := AutoSeq1.sub_tuple_tuple
  have hZ : (items.toList.zip items2.toList).length = min items.size items2.size := by simp
  have h0 := h
  obtain ⟨hp, g, d, tk, os⟩ := s
  wp_walk using AutoSeq1.wpAny_loadPart' hl1, AutoSeq1.wpAny_loadPart' hb1, wpAny_forIn_list _ (fun rest b s' => b.1 = none ∧ ∃ i, rest = (items.toList.zip items2.toList).drop i ∧ i ≤ min items.size items2.size ∧ (∀ j, j < i → bs j = true) ∧ I i s') _
  case turn =>
    rintro ⟨y, x⟩ rest b s' ⟨hb', i, hz, hi, hj, hI⟩
    have hlt : i < (items.toList.zip items2.toList).length := by
      rcases Nat.lt_or_ge i (items.toList.zip items2.toList).length with h' | h'
      · exact h'
      · rw [List.drop_of_length_le h'] at hz; cases hz
    have h1 : i < items.size := by omega
    have h2 : i < items2.size := by omega
    rw [List.drop_eq_getElem_cons hlt] at hz
    injection hz with hyx hrest
    have hy : y = items[i] := by have := congrArg Prod.fst hyx; simpa using this
    have hx : x = items2[i] := by have := congrArg Prod.snd hyx; simpa using this
    subst hy hx
    refine wpAny_bind (wpAny_mono (turn i h1 h2 s' hI) (fun r s2 q2 => ?_) fun _ _ x => x)
    obtain ⟨hr, q2⟩ := q2
    subst hr
    cases hbi : bs i with
    | true =>
      wp_walk
      refine ⟨rfl, i + 1, hrest, by omega, fun j hj' => ?_, q2⟩
      by_cases e : j = i
      · rw [e]; exact hbi
      · exact hj j (by omega)
    | false =>
      have hR : R (.ok (.ret (.bool false))) s2 := fin _ s2 false q2 ⟨(fun z => nomatch z), fun z => by rw [z.2 i h1] at hbi; cases hbi⟩
      wp_walk
      exact hR
  case fin =>
    rintro ⟨b1, b2⟩ s' ⟨hb', i, hz, hi, hj, hI⟩
    simp only at hb'
    subst hb'
    have hge : min items.size items2.size ≤ i := by
      rcases Nat.lt_or_ge i (items.toList.zip items2.toList).length with h' | h'
      · rw [List.drop_eq_getElem_cons h'] at hz; cases hz
      · exact hZ ▸ h'
    have hR : R (.ok (.ret (.bool (items.size == items2.size)))) s' := fin _ s' _ hI (by
      rw [beq_iff_eq]
      exact ⟨fun e => ⟨e, fun j hj' => hj j (by omega)⟩, fun e => e.1⟩)
    wp_walk
    exact hR
  case h =>
    exact ⟨rfl, 0, rfl, Nat.zero_le _, (fun j hj => absurd hj (Nat.not_lt_zero _)), h0⟩
theorem rc_tupB {E : Value → Shared → Prop} {s : Shared} {l b : Addr} {items items2 : Array Value} {Q : Value → Shared → Prop} (hu : A.units < cLine) (bs : Nat → Bool) (I : Nat → Shared → Prop)
    (hl : s.heap.IsTuple l items) (hb : s.heap.IsTuple b items2)
    (turn : ∀ i (h1 : i < items.size) (h2 : i < items2.size) s, I i s → wpAny (model prog w) A.in1 (eqBool items[i] items2[i]) (fun r s' => r = bs i ∧ I (i + 1) s') E s)
    (fin : ∀ i s (r : Bool), I i s → (r = true ↔ items.size = items2.size ∧ ∀ j, j < items.size → bs j = true) → Q (.bool r) s) (h : I 0 s) : wpAny (model prog w) A (richCompare .Eq (.ref l) (.ref b)) Q E s := by
  obtain ⟨⟨cls, dd, data, sl⟩, ho, hc, n, hd⟩ := id hl
  obtain ⟨⟨cls2, dd2, data2, sl2⟩, ho2, hc2, n2, hd2⟩ := id hb
  simp only at hc hd hc2 hd2
  subst hc hd hc2 hd2
  refine wpAny_richCompare_same_room (op := .Eq) ⟨_, ho, rfl⟩ ⟨_, ho2, rfl⟩ F.slot_tuple_eq (GQ.call_here F.slot_tuple_eq ⟨_, ho, rfl⟩ F.entry_tuple_eq (F.args_tuple_eq_2 _ _) ?_) hu
  exact tuple_eqB (R := wants (fun v s' => v ≠ .notImplemented ∧ Q v s') E) l b items items2 n n2 dd dd2 sl sl2 bs I turn (fun i s' r q e => ⟨(fun x => nomatch x), fin i s' r q e⟩) ho ho2 h
end
/-- two tuples of instances of c: their own == answers by bs -/
structure EqT (K : Frag) (c : Str) (sp : Sp) (E : XK) (H : Hp) (a b : Addr) (k : Bool → Hp → Prop) : Prop where
  ex : ∃ (xs ys : List V) (bs : Nat → Bool) (r : Bool), SqT K H a xs ∧ SqT K H b ys ∧
    (∀ (i : Nat) x y, xs[i]? = some x → ys[i]? = some y → ∃ p q, x = .ref p ∧ y = .ref q ∧ (p = q → bs i = true) ∧ ∀ H', Same H H' → IsO K H' c p (IsO K H' c q (sp [.ref p, .ref q] H' (fun v H2 => v = .bl (bs i) ∧ Same H' H2) E))) ∧
    (r = true ↔ xs.length = ys.length ∧ ∀ j, j < xs.length → bs j = true) ∧ ∀ H', Same H H' → k r H'
section
variable {X : Cx} {k : Nat} {g : Addr} {sp : Sp} {E : XK} {c : Str}
theorem eqT_run (hm : Meth X.K (He.ga X.K c) "__eq__" g) (F : FnR X.prog X.w X.K X.mg X.base (L2.CX X.prog X.w) k g sp) (hr : Room (k + 1) X.A) (hx : ∀ σ, PassesAt (L2.CX X.prog X.w) X σ E) {pins : List (Addr × Obj)} {s : Shared} {σ : L2.St} {H : Hp} {a b : Addr} {Q : VK} (I : Inv X pins σ H s)
    (q : EqT X.K c sp E H a b fun r H' => Q (.bl r) H') : wpAny (model X.prog X.w) X.A (richCompare .Eq (.ref a) (.ref b)) (EP X pins σ Q) X.xe s := by
  obtain ⟨⟨xs, ys, bs, r, ha, hb, hi, hr2, q⟩⟩ := q
  obtain ⟨its, rv, e, z⟩ := I.tuple ha
  obtain ⟨its2, rv2, e2, z2⟩ := I.tuple hb
  have l1 := rv.length
  have l2 := rv2.length
  refine rc_tupB hr.units0 bs (fun _ s' => ∃ H', Inv X pins σ H' s' ∧ Same H H') e e2 ?_ ?_ ⟨H, I, Same.refl _⟩
  · rintro i h1 h2 s' ⟨H', I', e'⟩
    have h1' : i < its.length := by simpa using h1
    have h2' : i < its2.length := by simpa using h2
    have g1 : its[i]? = some its.toArray[i] := by rw [List.getElem?_eq_getElem h1'] <;> simp
    have g2 : its2[i]? = some its2.toArray[i] := by rw [List.getElem?_eq_getElem h2'] <;> simp
    have k1 : i < xs.length := by omega
    have k2 : i < ys.length := by omega
    obtain ⟨u, hu, ru⟩ := rv.get (List.getElem?_eq_getElem k1)
    obtain ⟨v, hv, rvv⟩ := rv2.get (List.getElem?_eq_getElem k2)
    rw [g1] at hu
    rw [g2] at hv
    rw [Option.some.inj hu, Option.some.inj hv]
    obtain ⟨p, p2, ex, ey, hsame, hown⟩ := hi i _ _ (List.getElem?_eq_getElem k1) (List.getElem?_eq_getElem k2)
    rw [ex] at ru
    rw [ey] at rvv
    cases ru
    cases rvv
    by_cases hpp : p = p2
    · subst hpp
      rw [hsame rfl]
      exact SeqAt.EqAt.same (A := X.A.in1) (s := s') (.ref p) X.prog X.w X.xe _ ⟨rfl, H', I', e'⟩
    · obtain ⟨⟨dx, vs, hsl⟩, ⟨⟨dy, ws, hsl2⟩, q1⟩⟩ := hown H' e'
      obtain ⟨sl, od, _, J, _⟩ := SlX.slt_inst I' hsl
      obtain ⟨sl', od', _, J', _⟩ := SlX.slt_inst I' hsl2
      obtain ⟨m, hF⟩ := I'.fr
      have hr1 : Room k X.A.in1 := Room.in1 hr
      refine GQ.eqBool_refG hpp ?_
      refine PySem.W.cmp_K (op := .Eq) (tb := .ref (He.ga X.K c)) hr1.units0 hF I'.ok.mod.kin J J'.type (by unfold PySem.W.notFirst; simp) hm.at_ hm.fn ?_
      refine wpAny_mono (run_op (us := [.ref p, .ref p2]) (vs := [.ref p, .ref p2]) F hr1 I'.env0.in1 hx I' (.cons rfl (.cons rfl .nil)) q1) (fun w s2 z => ?_) fun _ _ x => x
      obtain ⟨z', H2, I2, rz, ez, e3⟩ := z
      subst ez
      cases rz
      exact ⟨_, rfl, rfl, H2, I2, e'.trans e3⟩
  · rintro i s' b' ⟨H', I', e'⟩ hb'
    have eb : b' = r := by
      rw [Bool.eq_iff_iff, hb', hr2]
      simp only [List.size_toArray]
      rw [← l1, ← l2]
    subst eb
    exact ⟨.bl b', H', I', rfl, q H' e'⟩
/-- x == y: of tuples of instances of c; of instances by their own def; of data -/
structure EqOT (K : Frag) (c : Str) (sp : Sp) (E : XK) (H : Hp) (a b : Addr) (Q : VK) : Prop where
  ex : EqOr K c H a b (sp [.ref a, .ref b] H Q E) (fun k => Q (.bl k) H) ∨ EqT K c sp E H a b fun r H' => Q (.bl r) H'
def oEqT (K : Frag) (c : Str) (sp : Sp) (E : XK) : R2 := fun x y H Q => match x, y with
  | .ref a, .ref b => EqOT K c sp E H a b Q
  | x, y => oEq K x y H Q
theorem op_eqT (hm : Meth X.K (He.ga X.K c) "__eq__" g) (F : FnR X.prog X.w X.K X.mg X.base (L2.CX X.prog X.w) k g sp) (hr : Room (k + 1) X.A) (hx : ∀ σ, PassesAt (L2.CX X.prog X.w) X σ E) : OpR X (compareOp .Eq) (oEqT X.K c sp E) := by
  have h1 : OpR X (compareOp .Eq) (oEqO X.K c sp E) := op_eqO hm F (hr.mono (Nat.le_succ _)) hx
  have h0 : OpR X (compareOp .Eq) (oEq X.K) := o_eq hr.units
  intro pins s σ H x y v u Q I rx ry q
  have two : ∀ a b, x = .ref a → y = .ref b → EqOT X.K c sp E H a b Q → wpAny (model X.prog X.w) X.A (compareOp .Eq v u) (EP X pins σ Q) X.xe s := by
    intro a b ex ey q1
    clear q
    subst ex ey
    rcases q1.ex with q | q
    · exact h1 pins s σ H _ _ v u Q I rx ry q
    · cases rx
      cases ry
      exact eqT_run hm F hr hx I q
  cases x <;> cases y <;> first
    | exact two _ _ rfl rfl q
    | exact h0 pins s σ H _ _ v u Q I rx ry q
end
end S
namespace S
open PySem PySem.Spec PyProof.Rows L2
/-! ### x op y: two instances of c by their own def; two others by r -/
structure OwnOr (K : Frag) (H : Hp) (c : Str) (a b : Addr) (P R : Prop) : Prop where
  ex : IsO K H c a (IsO K H c b P) ∨ R
theorem OwnOr.own {K : Frag} {H : Hp} {c : Str} {a b : Addr} {P R : Prop} (h : IsO K H c a (IsO K H c b P)) : OwnOr K H c a b P R := ⟨.inl h⟩
theorem OwnOr.dat {K : Frag} {H : Hp} {c : Str} {a b : Addr} {P R : Prop} (h : R) : OwnOr K H c a b P R := ⟨.inr h⟩
section
variable {X : Cx} {k kR : Nat} {g gR : Addr} {sp spR : Sp} {E : XK} {c : Str} {ups : List Str} {tys : List String}
def oOwnJ (K : Frag) (c : Str) (sp spR : Sp) (E : XK) (r : R2) : R2 := fun x y H Q => match x, y with
  | .ref a, .ref b => OwnOr K H c a b (sp [.ref a, .ref b] H Q E) (r (.ref a) (.ref b) H Q)
  | .ref a, .int i => IsO K H c a (sp [.ref a, .int i] H Q E)
  | .int i, .ref b => IsO K H c b (spR [.ref b, .int i] H Q E)
  | x, y => r x y H Q
theorem op_ownJ {op : Operator} {r : R2} (iop : IntOp op) (mf : MF X.K c ups tys) (hty : "int" ∉ tys) (hm : Meth X.K (He.ga X.K c) (PySem.dunder op.info.2) g) (hmR : Meth X.K (He.ga X.K c) (PySem.dunderR op.info.2) gR)
    (F : FnR X.prog X.w X.K X.mg X.base (L2.CX X.prog X.w) k g sp) (FR' : FnR X.prog X.w X.K X.mg X.base (L2.CX X.prog X.w) kR gR spR) (hr : Room k X.A) (hrR : Room kR X.A) (hx : ∀ σ, PassesAt (L2.CX X.prog X.w) X σ E) (h0 : OpR X (binaryOp op) r) : OpR X (binaryOp op) (oOwnJ X.K c sp spR E r) := by
  have h1 : OpR X (binaryOp op) (oOwnI X.K c sp spR E r) := op_ownI iop mf hty hm hmR F FR' hr hrR hx h0
  intro pins s σ H x y v u Q I rx ry q
  have two : ∀ a b, x = .ref a → y = .ref b → OwnOr X.K H c a b (sp [.ref a, .ref b] H Q E) (r (.ref a) (.ref b) H Q) → wpAny (model X.prog X.w) X.A (binaryOp op v u) (EP X pins σ Q) X.xe s := by
    intro a b ex ey q1
    clear q
    subst ex ey
    rcases q1.ex with q | q
    · exact h1 pins s σ H _ _ v u Q I rx ry q
    · exact h0 pins s σ H _ _ v u Q I rx ry q
  cases x <;> cases y <;> first | exact two _ _ rfl rfl q | exact h1 pins s σ H _ _ v u Q I rx ry q
end
end S
namespace S
open PySem PySem.Spec PyProof.Rows L2
/-! ### the head's look, over what the named ones reach -/
def nsG (g : Addr → Option Obj) (ns : Addr) (x : Str) : List Addr := match g ns with
  | some ⟨_, _, .dict es _, _⟩ => (match es.toList.find? (·.key.isStr x) with
    | some e => He.refV e.val
    | none => [])
  | _ => []
def rfY (o : Obj) : List Addr := match o.data with
  | .cls cd => [cd.ns]
  | .func fd => He.refV fd.code ++ (He.refV fd.defaults ++ (He.refV fd.kwdefaults ++ fd.closure.map (·.2)))
  | .dict es _ => es.toList.flatMap fun e => He.refV e.val
  | .seq its _ => its.toList.flatMap He.refV
  | .fields vs => (match o.cls == .type "code" with
    | true => []
    | false => vs.toList.flatMap He.refV)
  | _ => []
def stepY (g : Addr → Option Obj) (as : List Addr) : List Addr := as.flatMap fun a => match g a with
  | some o => rfY o
  | none => []
def lvY (g : Addr → Option Obj) : Nat → List Addr → List Addr
  | 0, as => as
  | n + 1, as => as ++ lvY g n (stepY g as)
def asY (names : List Str) (g : Addr → Option Obj) : List Addr := mainGlobals :: cStatics :: lvY g 4 (names.flatMap (nsG g mainGlobals))
def obsYG (names : List Str) (fa : List He.Fa) (fx : List (Frag → Bool)) (fn : List DfX) (g : Addr → Option Obj) : AlX := obsK fa fx fn (He.frG g (asY names g))
def hookY (names : List Str) (fa : List He.Fa) (fx : List (Frag → Bool)) (fn : List DfX) : PySem.W.Hook where
  α := AlX
  obs := fun s => obsYG names fa fx fn s.heap.get?
  val := fun _ => valX fn
  says := fun _ h => ∃ K : Frag, K.In h ∧ SaysX fa fx fn K
  of := fun _ _ e => ⟨_, He.frG_in, e⟩
  keeps := fun _ _ _ ⟨K, hK, c⟩ k => ⟨K, PySem.W.Frag.In.keeps hK k, c⟩
theorem obsYG_eq {names : List Str} {fa : List He.Fa} {fx : List (Frag → Bool)} {fn : List DfX} {g : Addr → Option Obj} {s : Shared} (h : ∀ a, g a = s.heap.get? a) : obsYG names fa fx fn g = (hookY names fa fx fn).obs s := by
  have e : g = s.heap.get? := funext h
  rw [e] <;> rfl
theorem run_split2 {σ β γ : Type} {o : Option σ} {f : σ → Bool} {g : σ → β} {h : σ → γ} {v2 : β} {v3 : γ} (h1 : o.map (fun s => (f s, g s)) = some (true, v2)) (h2 : o.map h = some v3) : o.map (fun s => (f s, g s, h s)) = some (true, v2, v3) := by
  cases o with
  | none => cases h1
  | some s =>
    have e1 : (f s, g s) = (true, v2) := Option.some.inj h1
    have e2 : h s = v3 := Option.some.inj h2
    obtain ⟨e3, e4⟩ := Prod.mk.inj e1
    show some (f s, g s, h s) = _
    rw [e3, e4, e2]
end S
namespace S
open PySem PySem.Spec PyProof.Rows L2
/-! ### classes whose instances have a dict -/
structure DF (K : Frag) (x : Str) (ups : List Str) (fs : List Str) : Prop where
  mf : MF K x ups ["object"]
  cl : Cls K (He.ga K x)
  ha : PySem.W.findIn K (.ref (He.ga K x)) "__class__" = some (some (.builtin "object.__class__"))
  hn : PySem.W.specialIn K (.builtin "object.__class__") "__get__" = some (some (.builtin "getset_descriptor.__get__"))
  ht : PySem.W.takesIn K (.builtin "object.__class__") = some true
  hm : PySem.W.mroIn K (He.ga K x) (.type "object") = some true
  na : ∀ f ∈ fs, NoAttr K (He.ga K x) f
def dfB (x : Str) (ups fs : List Str) (K : Frag) : Bool := mfB K x ups ["object"] && ((He.Fa.cls x).ok K && (He.eqO (PySem.W.findIn K (.ref (He.ga K x)) "__class__") (some (some (.builtin "object.__class__"))) && (He.eqO (PySem.W.specialIn K (.builtin "object.__class__") "__get__") (some (some (.builtin "getset_descriptor.__get__"))) &&
  (decide (PySem.W.takesIn K (.builtin "object.__class__") = some true) && (decide (PySem.W.mroIn K (He.ga K x) (.type "object") = some true) && fs.all fun f => He.eqO (PySem.W.findIn K (.ref (He.ga K x)) f) (some none))))))
theorem dfB_ok {K : Frag} {x : Str} {ups fs : List Str} (h : dfB x ups fs K = true) : DF K x ups fs := by
  obtain ⟨h1, h⟩ := He.ba h
  obtain ⟨h2, h⟩ := He.ba h
  obtain ⟨h3, h⟩ := He.ba h
  obtain ⟨h4, h⟩ := He.ba h
  obtain ⟨h5, h⟩ := He.ba h
  obtain ⟨h6, h7⟩ := He.ba h
  exact ⟨mfB_ok h1, He.cls_ok h2, He.eqO_ok h3, He.eqO_ok h4, of_decide_eq_true h5, of_decide_eq_true h6, fun f hf => He.eqO_ok (List.all_eq_true.mp h7 f hf)⟩
section
variable {K : Frag} {H : Hp} {a dx : Addr} {x f : Str} {ups fs : List Str} {as : List (Str × V)}
theorem Atr.df {k : V → Prop} {v : V} (c : DF K x ups fs) (h : H a = some (.ins (He.ga K x) dx as)) (l : as.lookup f = some v) (q : k v) (hf : f ∈ fs := by decide) : Atr K H a f k := ⟨.inr ⟨_, dx, as, v, h, c.cl, c.na f hf, l, q⟩⟩
theorem Sto.df {k : Hp → Prop} {y : V} (c : DF K x ups fs) (h : H a = some (.ins (He.ga K x) dx as)) (l : as.length < 1000) (q : k (upd H a (.ins (He.ga K x) dx (putF f y as)))) (hf : f ∈ fs := by decide) : Sto K H a f y k := ⟨.inr ⟨_, dx, as, h, c.cl, c.na f hf, l, q⟩⟩
theorem Isi.df {y : Str} {ups' : List Str} {tys' : List String} {k : Bool → Prop} (c : DF K x ups fs) (h : H a = some (.ins (He.ga K x) dx as)) (n : MF K y ups' tys') (q : k (decide (y ∈ x :: ups))) : Isi K H (.ref a) (.ref (He.ga K y)) k :=
  Isi.of (.base (.ins h c.cl c.ha c.hn c.ht c.hm)) (mf_kit c.mf n) q
end
/-! ### methods, properties of such instances -/
structure IsD (K : Frag) (H : Hp) (c m : Str) (a : Addr) (q : Prop) : Prop where
  ex : ∃ dx fs, H a = some (.ins (He.ga K c) dx fs) ∧ fs.lookup m = none
  q : q
theorem IsD.of {K : Frag} {H : Hp} {c m : Str} {a dx : Addr} {fs : List (Str × V)} {q : Prop} (h : H a = some (.ins (He.ga K c) dx fs)) (h2 : q) (l : fs.lookup m = none := by rfl) : IsD K H c m a q := ⟨⟨dx, fs, h, l⟩, h2⟩
def dMethD (K : Frag) (c m : Str) (sp : Sp) (E : L2.St → XK) (ta : TE) (t : TA) : TE := fun σ H Q => ta σ H fun x H1 => match x with
  | .ref a => IsD K H1 c m a (t σ H1 fun ws H2 => sp (.ref a :: ws) H2 Q (E σ))
  | _ => False
section
variable {X : Cx} {k : Nat} {g : Addr} {sp : Sp} {E : L2.St → XK} {x c m : Str} {p pos apos : Pos} {e o : Expr} {es : List Expr} {t : TA} {ta : TE}
theorem pe_methD {pl : Sem Bool} (hc : Cls X.K (He.ga X.K c)) (hm : Meth X.K (He.ga X.K c) m g) (F : FnR X.prog X.w X.K X.mg X.base (L2.CX X.prog X.w) k g sp) (hr : Room k X.A) (hx : ∀ σ, PassesAt (L2.CX X.prog X.w) X σ (E σ)) (he : PE X o ta) (ha : PA X (e :: es) t)
    (hst : starEach (e :: es) X.env = (false, eval e X.env) :: starEach es X.env := by rfl) (hpl : (backTo pos (starEach es X.env)).any (·.1) = false := by rfl)
    (ht : eval (.Call (.Attribute o m apos) (e :: es) [] pos) X.env = (do
      let ov ← eval o X.env
      standAt apos.atName
      let (f, first) ← holding [ov] (getMethod ov m pl)
      callWith pos f first (backTo pos (starEach (e :: es) X.env)) (backToKw pos (keywordEach [] X.env))) := by rfl) :
    PE X (.Call (.Attribute o m apos) (e :: es) [] pos) (dMethD X.K c m sp E ta t) := by
  refine ⟨fun pins s σ H Q I h => ?_⟩
  refine PySem.W.methodCall_KW (pl := pl) (thn (he.run pins s σ H _ I h) fun u s1 ⟨x, H1, I1, rx, q⟩ => ?_) ht
  cases x <;> try exact q.elim
  cases rx
  obtain ⟨⟨dx, fs, ea, l⟩, q⟩ := q
  refine getmeth_ok I1 ea hc hm l ?_
  refine PySem.W.callWith_K (first := [.ref _]) (h₀ := X.base) I.ok.mod.kin hm.kp (thn (ha.run pos pins s1 σ H1 _ I1 q) fun us s2 ⟨ws, H2, I2, r, q2⟩ => ⟨I2.kIn, ?_⟩) hst hpl
  exact run_R (us := .ref _ :: us) (vs := .ref _ :: ws) F hr (hx σ) I2 (.cons rfl r) q2
theorem pe_methD0 {pl : Sem Bool} (hc : Cls X.K (He.ga X.K c)) (hm : Meth X.K (He.ga X.K c) m g) (F : FnR X.prog X.w X.K X.mg X.base (L2.CX X.prog X.w) k g sp) (hr : Room k X.A) (hx : ∀ σ, PassesAt (L2.CX X.prog X.w) X σ (E σ)) (he : PE X o ta)
    (ht : eval (.Call (.Attribute o m apos) [] [] pos) X.env = (do
      let ov ← eval o X.env
      standAt apos.atName
      let (f, first) ← holding [ov] (getMethod ov m pl)
      callWith pos f first (backTo pos (starEach [] X.env)) (backToKw pos (keywordEach [] X.env))) := by rfl) :
    PE X (.Call (.Attribute o m apos) [] [] pos) (dMethD X.K c m sp E ta tNil) := by
  refine ⟨fun pins s σ H Q I h => ?_⟩
  refine PySem.W.methodCall_KW (pl := pl) (thn (he.run pins s σ H _ I h) fun u s1 ⟨x, H1, I1, rx, q⟩ => ?_) ht
  cases x <;> try exact q.elim
  cases rx
  obtain ⟨⟨dx, fs, ea, l⟩, q⟩ := q
  refine getmeth_ok I1 ea hc hm l ?_
  exact PySem.W.callWith_K0 (first := [.ref _]) I1.kIn hm.kp (run_R (us := [.ref _]) (vs := [.ref _]) F hr (hx σ) I1 (.cons rfl .nil) q)
def dPropD (K : Frag) (c f : Str) (sp : Sp) (ta : TE) : TE := fun σ H Q => ta σ H fun x H1 => match x with
  | .ref a => IsD K H1 c f a (sp [.ref a] H1 Q E0)
  | _ => False
theorem pe_propD {f : Str} {n : Nat} (hc : Cls X.K (He.ga X.K c)) (pf : PropF X.K c f g) (F : FnR X.prog X.w X.K X.mg X.base (L2.CX X.prog X.w) n g sp) (hr : Room (n + 1) X.A) (he : PE X e ta)
    (hb : attributeBase e f X.env (eval e X.env) = eval e X.env := by rfl) : PE X (.Attribute e f pos) (dPropD X.K c f sp ta) := by
  refine ⟨fun pins s σ H Q I h => ?_⟩
  refine attr_of hb (thn (he.run pins s σ H _ I h) fun w s1 ⟨x, H1, I1, rx, q⟩ => ?_)
  cases x <;> try exact q.elim
  cases rx
  obtain ⟨⟨dx, fs, ea, l⟩, q⟩ := q
  obtain ⟨mA, O, _, _, _, _⟩ := ins_get I1.hok ea
  obtain ⟨od, J, _⟩ := O.look
  obtain ⟨rest, hrec⟩ := pf.rc
  have I2 := I1.tok (s1.toks + 1)
  have hcl : (PySem.W.clsIn X.K (He.ga X.K c)).isSome = true := by
    obtain ⟨cd, h2, _⟩ := PySem.W.any_some hc.hd
    rw [h2]
    rfl
  refine PySem.W.get_bind I1.kIn J (PySem.W.plainGet_of (hc.get f)).1 (PySem.W.findObj_data hcl pf.at_ pf.get pf.tk) (PySem.W.plainGet_of (hc.get f)).2 (wpAny_call (PySem.W.prop_get (s := { s1 with toks := s1.toks + 1 }) I1.kIn hrec ?_))
  refine codeAny_mono (F X.A.in1 X.stack { s1 with toks := s1.toks + 1 } H1 [.ref _] [.ref _] Q E0 hr.in1 I2.env0.in1 (.cons rfl .nil) q) fun r s' hq => ?_
  cases r with
  | error er =>
    obtain ⟨_, _, _, _, _, _, _, _, _, _, _, _, z⟩ := hq
    exact z.elim
  | ok fl =>
    cases fl with
    | ret u =>
      obtain ⟨v, H', I3, rv, q3⟩ := I2.after hq
      exact wpAny_of_eq (PySem.W.handedOut_of (handed_of rv)) ⟨v, H', I3, rv, q3⟩
    | next => exact False.elim hq
    | brk => exact False.elim hq
    | cont => exact False.elim hq
end
/-! ### calls with keywords -/
structure FK (P : Program) (w : World) (K : Frag) (mg : Str → Option Value) (base : Heap) (k : Nat) (f : Addr) (n : Nat) (ks : List Str) (sp : Sp) (gV : List V → List V → List V) : Prop where
  ex : ∃ (fd : FuncData) (ps : List Str) (g : List Value → List Value → List Value), FnOk P w K mg base (L2.CX P w) k f fd ps sp ∧ KBn K fd ps n ks g gV
theorem mk_fnK {P : Program} {w : World} {K : Frag} {mg : Str → Option Value} {base : Heap} {x qual : Str} {params : Arguments} {body : List Stmt} {scope : Scope} {f : Addr} {fd : FuncData} {N ps ks : List Str} {k n : Nat} {sp : Sp} {dvs : List V} {kws : List (Str × V)} {gV : List V → List V → List V} (F : FunD K x qual params body scope dvs kws f fd) (S : FnScope N ps scope)
    (len : ∀ vs H Q E, sp vs H Q E → vs.length = ps.length) (hb : ∃ g, KBn K fd ps n ks g gV) {t : XK → TS}
    (hbody : ∀ (cdv : Value) (A : Around) (outer : List Env) (s : Shared) (H : Hp) (E : XK), Room k (A.deeper (envOfC qual scope s.heap.objs.size f cdv)) →
      PSs (cxD P w K mg base N qual scope f cdv A outer s H E) body (t E))
    (pure : ∀ vs H Q E, sp vs H Q E → t E { nx := fun _ H' => Q .non H', rt := Q } (start N vs) H) : FK P w K mg base (k + 1) f n ks sp gV := by
  obtain ⟨g, hb⟩ := hb
  exact ⟨fd, ps, g, FunD.ok (P := P) (w := w) (mg := mg) (base := base) (CX := L2.CX P w) (sp := sp) F S len fun cdv A outer s H vs Q E hr h => ⟨t E, hbody cdv A outer s H E hr, pure vs H Q E h⟩, hb⟩
def dCallK (n m : Nat) (sp : Sp) (gV : List V → List V → List V) (E : L2.St → XK) (t tk : TA) : TE := fun σ H Q => t σ H fun vs H1 => tk σ H1 fun zs H2 => vs.length = n ∧ zs.length = m ∧ sp (gV vs zs) H2 Q (E σ)
def dMethDK (K : Frag) (c mt : Str) (n m : Nat) (sp : Sp) (gV : List V → List V → List V) (E : L2.St → XK) (ta : TE) (t tk : TA) : TE := fun σ H Q => ta σ H fun x H1 => match x with
  | .ref a => IsD K H1 c mt a (t σ H1 fun vs H2 => tk σ H2 fun zs H3 => vs.length + 1 = n ∧ zs.length = m ∧ sp (gV (.ref a :: vs) zs) H3 Q (E σ))
  | _ => False
section
variable {X : Cx} {k n : Nat} {f g : Addr} {ks : List Str} {sp : Sp} {E : L2.St → XK} {x c m : Str} {p pos apos : Pos} {e o : Expr} {es : List Expr} {kws : List Keyword} {t tk : TA} {ta : TE} {gV : List V → List V → List V}
theorem run_FK {pins : List (Addr × Obj)} {σ : L2.St} {H : Hp} {s : Shared} {Q : VK} {us ws : List Value} {vs zs : List V} (F : FK X.prog X.w X.K X.mg X.base k f n ks sp gV) (hr : Room k X.A) (hx : PassesAt (L2.CX X.prog X.w) X σ (E σ))
    (I : Inv X pins σ H s) (r : Vals vs us) (rz : Vals zs ws) (l1 : vs.length = n) (l2 : zs.length = ks.length) (h : sp (gV vs zs) H Q (E σ)) : wpAny (model X.prog X.w) X.A (call (.ref f) us (ks.zip ws)) (EP X pins σ Q) X.xe s := by
  obtain ⟨fd, ps, gg, F, hb⟩ := F.ex
  have r2 := hb.rel r rz
  refine wpAny_call (codeAny_mono (F.run X.A X.stack s H ⟨us, ks.zip ws⟩ (gg us ws) (gV vs zs) Q (E σ) hr I.env0 (hb.to s us ws I.kIn (r.length.symm.trans l1) (rz.length.symm.trans l2)) r2 h) fun r s' hq => ?_)
  cases r with
  | error e => exact hx pins H s e s' I hq
  | ok fl =>
    cases fl with
    | ret u => exact I.after hq
    | next => exact False.elim hq
    | brk => exact False.elim hq
    | cont => exact False.elim hq
/-- f(e, .., k = v, ..) -/
theorem pe_callK (F : FK X.prog X.w X.K X.mg X.base k f n ks sp gV) (hr : Room k X.A) (hm : X.mg x = some (.ref f)) (hk : PySem.W.keepIn X.K (.ref f) = true) (hx : ∀ σ, PassesAt (L2.CX X.prog X.w) X σ (E σ))
    (ha : PA X (e :: es) t) (hkw : PK X kws tk) (hg : Gl X x := by rfl) (hall : (backToKw pos (keywordEach kws X.env)).all (·.1.isSome) = true := by rfl) (hks : (backToKw pos (keywordEach kws X.env)).filterMap (·.1) = ks := by rfl)
    (hdb : (x == ("__debug__" : Str)) = false := by decide) (he : starEach (e :: es) X.env = (false, eval e X.env) :: starEach es X.env := by rfl)
    (hpl : ((backTo pos (starEach (e :: es) X.env)).any (·.1) || (backToKw pos (keywordEach kws X.env)).any (·.1.isNone)) = false := by rfl) :
    PE X (.Call (.Name x p) (e :: es) kws pos) (dCallK n ks.length sp gV E t tk) := by
  refine ⟨fun pins s σ H Q I h => ?_⟩
  refine wpAny_Call_Name_kw (ld_glob I hg hm ?_ hdb)
  refine PySem.W.callWith_KW (h₀ := X.base) I.ok.mod.kin hk hall (thn (ha.run pos pins s σ H _ I h) fun us s1 ⟨vs, H1, I1, r, q⟩ => ?_) hpl he
  refine thn (hkw.run pos pins s1 σ H1 _ I1 q) fun ws s2 ⟨zs, H2, I2, rz, l1, l2, q2⟩ => ⟨I2.kIn, ?_⟩
  rw [hks]
  exact run_FK F hr (hx σ) I2 r rz l1 l2 q2
/-- o.m(e, .., k = v, ..), o an instance with a dict -/
theorem pe_methDK {pl : Sem Bool} (hc : Cls X.K (He.ga X.K c)) (hm : Meth X.K (He.ga X.K c) m g) (F : FK X.prog X.w X.K X.mg X.base k g n ks sp gV) (hr : Room k X.A) (hx : ∀ σ, PassesAt (L2.CX X.prog X.w) X σ (E σ)) (he : PE X o ta) (ha : PA X (e :: es) t) (hkw : PK X kws tk)
    (hall : (backToKw pos (keywordEach kws X.env)).all (·.1.isSome) = true := by rfl) (hks : (backToKw pos (keywordEach kws X.env)).filterMap (·.1) = ks := by rfl)
    (hst : starEach (e :: es) X.env = (false, eval e X.env) :: starEach es X.env := by rfl) (hpl : ((backTo pos (starEach (e :: es) X.env)).any (·.1) || (backToKw pos (keywordEach kws X.env)).any (·.1.isNone)) = false := by rfl)
    (ht : eval (.Call (.Attribute o m apos) (e :: es) kws pos) X.env = (do
      let ov ← eval o X.env
      standAt apos.atName
      let (f, first) ← holding [ov] (getMethod ov m pl)
      callWith pos f first (backTo pos (starEach (e :: es) X.env)) (backToKw pos (keywordEach kws X.env))) := by rfl) :
    PE X (.Call (.Attribute o m apos) (e :: es) kws pos) (dMethDK X.K c m n ks.length sp gV E ta t tk) := by
  refine ⟨fun pins s σ H Q I h => ?_⟩
  refine PySem.W.methodCall_KW (pl := pl) (thn (he.run pins s σ H _ I h) fun u s1 ⟨x, H1, I1, rx, q⟩ => ?_) ht
  cases x <;> try exact q.elim
  cases rx
  obtain ⟨⟨dx, fs, ea, l⟩, q⟩ := q
  refine getmeth_ok I1 ea hc hm l ?_
  refine PySem.W.callWith_KW (first := [.ref _]) (h₀ := X.base) I.ok.mod.kin hm.kp hall (thn (ha.run pos pins s1 σ H1 _ I1 q) fun us s2 ⟨vs, H2, I2, r, q2⟩ => ?_) hpl hst
  refine thn (hkw.run pos pins s2 σ H2 _ I2 q2) fun ws s3 ⟨zs, H3, I3, rz, l1, l2, q3⟩ => ⟨I3.kIn, ?_⟩
  rw [hks]
  exact run_FK (us := .ref _ :: us) (vs := .ref _ :: vs) F hr (hx σ) I3 (.cons rfl r) rz (by rw [List.length_cons]; exact l1) l2 q3
end
end S
namespace S
open PySem PySem.Spec PyProof.Rows L2
/-! ### sum(a list of numbers) -/
structure SumL (K : Frag) (H : Hp) (a : Addr) (k : Int → Prop) : Prop where
  ex : ∃ ns : List Int, SqL K H a (ns.map V.int) ∧ k ns.sum
theorem SumL.of {K : Frag} {H : Hp} {a : Addr} {k : Int → Prop} {ns : List Int} (h : H a = some (.lst (ns.map V.int))) (q : k ns.sum) : SumL K H a k := ⟨ns, SqL.of h, q⟩
def cSum (K : Frag) : List V → Hp → VK → Prop := fun xs H Q => match xs with
  | [.ref a] => SumL K H a fun i => Q (.int i) H
  | _ => False
theorem c_sum {X : Cx} (hc : X.calm = true) : CallR X (.builtin "sum") (cSum X.K) := CallR.of (cr_sum hc) fun xs H Q q => by
  match xs, q with
  | [.ref a], ⟨⟨ns, h, q⟩⟩ => exact ⟨a, ns, rfl, h, q⟩
end S
namespace S
open PySem PySem.Spec PyProof.Rows L2
/-! ### x == y of an instance ahead with its own def and anything behind -/
/-- what the model takes the right side for -/
inductive RTy (K : Frag) (H : Hp) : V → Value → Prop where
  | dat {y : V} {d : PyData} (h : Dp K H y d) : RTy K H y (PySem.W.dataType d)
  | ins {b C dx : Addr} {vs : List (Option V)} (h : SlX.Slt H b C dx vs) : RTy K H (.ref b) (.ref C)
structure EqA (K : Frag) (c : Str) (sp : Sp) (E : XK) (H : Hp) (a : Addr) (y : V) (Q : VK) : Prop where
  ex : (∃ t, RTy K H y t ∧ PySem.W.notFirst K (He.ga K c) t = true ∧ IsO K H c a (sp [.ref a, y] H Q E)) ∨ oEq K (.ref a) y H Q
theorem EqA.of {K : Frag} {c : Str} {sp : Sp} {E : XK} {H : Hp} {a dx : Addr} {y : V} {Q : VK} {t : Value} {vs : List (Option V)} (r : RTy K H y t) (n : PySem.W.notFirst K (He.ga K c) t = true) (h : SlX.Slt H a (He.ga K c) dx vs) (q : sp [.ref a, y] H Q E) : EqA K c sp E H a y Q := ⟨.inl ⟨t, r, n, .of h q⟩⟩
theorem EqA.dat {K : Frag} {c : Str} {sp : Sp} {E : XK} {H : Hp} {a : Addr} {y : V} {Q : VK} (q : oEq K (.ref a) y H Q) : EqA K c sp E H a y Q := ⟨.inr q⟩
def oEqA (K : Frag) (c : Str) (sp : Sp) (E : XK) : R2 := fun x y H Q => match x with
  | .ref a => EqA K c sp E H a y Q
  | x => oEq K x y H Q
section
variable {X : Cx} {k : Nat} {g : Addr} {sp : Sp} {E : XK} {c : Str}
theorem op_eqA (hm : Meth X.K (He.ga X.K c) "__eq__" g) (F : FnR X.prog X.w X.K X.mg X.base (L2.CX X.prog X.w) k g sp) (hr : Room k X.A) (hx : ∀ σ, PassesAt (L2.CX X.prog X.w) X σ E) : OpR X (compareOp .Eq) (oEqA X.K c sp E) := by
  have h0 : OpR X (compareOp .Eq) (oEq X.K) := o_eq hr.units
  intro pins s σ H x y v u Q I rx ry q
  have own : ∀ a, x = .ref a → EqA X.K c sp E H a y Q → wpAny (model X.prog X.w) X.A (compareOp .Eq v u) (EP X pins σ Q) X.xe s := by
    intro a ex q1
    clear q
    subst ex
    rcases q1.ex with ⟨t, hy, hn, ⟨⟨dx, vs, hsl⟩, q⟩⟩ | q
    · cases rx
      obtain ⟨sl, od, _, J, _⟩ := SlX.slt_inst I hsl
      obtain ⟨m, hF⟩ := I.fr
      have hb : PySem.W.Looks (model X.prog X.w) s.heap (typeOf u) t := by
        cases hy with
        | dat h =>
          obtain ⟨as, hr⟩ := Dp.reads I _ _ _ h ry
          exact PySem.W.looks_reads hr
        | ins h =>
          cases ry
          obtain ⟨sl', od', _, J', _⟩ := SlX.slt_inst I h
          exact J'.type
      show wpAny _ _ (richCompare .Eq (.ref a) u) _ _ _
      refine PySem.W.cmp_K (op := .Eq) (tb := t) hr.units0 hF I.ok.mod.kin J hb hn hm.at_ hm.fn ?_
      refine wpAny_mono (run_op (us := [.ref a, u]) (vs := [.ref a, y]) F hr I.env0 hx I (.cons rfl (.cons ry .nil)) q) (fun w s' z => ?_) fun _ _ x => x
      obtain ⟨z', H', I', rz, qz⟩ := z
      exact SlX.cmpback rz ⟨z', H', I', rz, qz⟩
    · exact h0 pins s σ H _ _ v u Q I rx ry q
  cases x <;> first
    | exact own _ rfl q
    | exact h0 pins s σ H _ _ v u Q I rx ry q
end
/-- no class of the program stands among the built-in ones -/
theorem nf_int {K : Frag} {C : Addr} : PySem.W.notFirst K C (.type "int") = true := by unfold PySem.W.notFirst; rfl
theorem nf_tup {K : Frag} {C : Addr} : PySem.W.notFirst K C (.type "tuple") = true := by unfold PySem.W.notFirst; rfl
theorem nf_list {K : Frag} {C : Addr} : PySem.W.notFirst K C (.type "list") = true := by unfold PySem.W.notFirst; rfl
theorem nf_non {K : Frag} {C : Addr} : PySem.W.notFirst K C (.type "NoneType") = true := by unfold PySem.W.notFirst; rfl
theorem nf_str {K : Frag} {C : Addr} : PySem.W.notFirst K C (.type "str") = true := by unfold PySem.W.notFirst; rfl
theorem nf_self {K : Frag} {C : Addr} : PySem.W.notFirst K C (.ref C) = true := by unfold PySem.W.notFirst; simp
theorem nf_cls {K : Frag} {x y : Str} {ups ups' : List Str} {tys tys' : List String} (m : MF K x ups tys) (n : MF K y ups' tys') (h : y ∉ x :: ups) : PySem.W.notFirst K (He.ga K y) (.ref (He.ga K x)) = true := by
  have e := mf_cls m n
  obtain ⟨cd, e', _⟩ := n.cd
  change (if ((PySem.W.clsIn K (He.ga K y)).isSome && PySem.W.typeIn K (.ref (He.ga K y)) == some (.type "type")) = true then PySem.W.subIn K (.ref (He.ga K x)) (.ref (He.ga K y)) else none) = _ at e
  rw [if_pos (by rw [e', n.ty]; simp), decide_eq_false h] at e
  unfold PySem.W.notFirst
  rw [e]
  simp
end S
namespace S
open PySem PySem.Spec PyProof.Rows L2
/-! ### == of tuples of instances: what one address means is known in the run -/
theorem relV_inj {x y : V} {u : Value} (h : L2.RelV x u) (h2 : L2.RelV y u) : x = y := by
  have a : Vals [x] [u] := .cons h .nil
  have b : Vals [y] [u] := .cons h2 .nil
  exact List.cons.inj (a.inj b) |>.1
theorem slt_same14 {H H' : Hp} {a C dx : Addr} {vs : List (Option V)} (e : Same H H') (h : SlX.Slt H a C dx vs) : SlX.Slt H' a C dx vs := by
  rcases h with ⟨h, z⟩ | ⟨h, z⟩
  · exact .inl ⟨e _ _ h, z⟩
  · exact .inr ⟨e _ _ h, e _ _ z⟩
/-- what one heap says: tuples have one content -/
def TupOne (K : Frag) (H : Hp) : Prop := ∀ u xs ys, SqT K H u xs → SqT K H u ys → xs = ys
/-- two tuples of instances of c: their own == answers by bs -/
structure EqT2 (K : Frag) (c : Str) (sp : Sp) (E : XK) (H : Hp) (a b : Addr) (k : Bool → Hp → Prop) : Prop where
  ex : ∃ (xs ys : List V) (bs : Nat → Bool) (r : Bool), SqT K H a xs ∧ SqT K H b ys ∧
    (∀ (i : Nat) x y, xs[i]? = some x → ys[i]? = some y → ∃ p q dx vs dy ws, x = .ref p ∧ y = .ref q ∧ SlX.Slt H p (He.ga K c) dx vs ∧ SlX.Slt H q (He.ga K c) dy ws ∧ (TupOne K H → (∀ (j : Nat) v w, vs[j]? = some (some v) → ws[j]? = some (some w) → v = w) → p = q → bs i = true) ∧
      ∀ H', Same H H' → sp [.ref p, .ref q] H' (fun v H2 => v = .bl (bs i) ∧ Same H' H2) E) ∧
    (r = true ↔ xs.length = ys.length ∧ ∀ j, j < xs.length → bs j = true) ∧ ∀ H', Same H H' → k r H'
section
variable {X : Cx} {k : Nat} {g : Addr} {sp : Sp} {E : XK} {c : Str}
theorem eqT2_run (hm : Meth X.K (He.ga X.K c) "__eq__" g) (F : FnR X.prog X.w X.K X.mg X.base (L2.CX X.prog X.w) k g sp) (hr : Room (k + 1) X.A) (hx : ∀ σ, PassesAt (L2.CX X.prog X.w) X σ E) {pins : List (Addr × Obj)} {s : Shared} {σ : L2.St} {H : Hp} {a b : Addr} {Q : VK} (I : Inv X pins σ H s)
    (q : EqT2 X.K c sp E H a b fun r H' => Q (.bl r) H') : wpAny (model X.prog X.w) X.A (richCompare .Eq (.ref a) (.ref b)) (EP X pins σ Q) X.xe s := by
  obtain ⟨⟨xs, ys, bs, r, ha, hb, hi, hr2, q⟩⟩ := q
  refine eqT_run hm F hr hx I ⟨⟨xs, ys, bs, r, ha, hb, fun i x y h1 h2 => ?_, hr2, q⟩⟩
  obtain ⟨p, p2, dx, vs, dy, ws, ex, ey, hs1, hs2, hsame, hown⟩ := hi i x y h1 h2
  refine ⟨p, p2, ex, ey, fun e => ?_, fun H' e' => .of (slt_same14 e' hs1) (.of (slt_same14 e' hs2) (hown H' e'))⟩
  subst e
  refine hsame (fun u zs ws h h' => I.tuple_inj h h') (fun j v w hv hw => ?_) rfl
  obtain ⟨sl, od, r1, J, _⟩ := SlX.slt_inst I hs1
  obtain ⟨sl', od', r2, J', _⟩ := SlX.slt_inst I hs2
  obtain ⟨u1, e1, q1⟩ := r1 j v hv
  obtain ⟨u2, e2, q2⟩ := r2 j w hw
  have hJ := J.1
  have hJ' := J'.1
  rw [hJ] at hJ'
  have es := congrArg (fun o : Option Obj => o.map Obj.slots) hJ'
  have es2 : sl = sl' := Option.some.inj es
  subst es2
  rw [e1] at e2
  cases e2
  exact relV_inj q1 q2
structure EqOT2 (K : Frag) (c : Str) (sp : Sp) (E : XK) (H : Hp) (a b : Addr) (Q : VK) : Prop where
  ex : EqOr K c H a b (sp [.ref a, .ref b] H Q E) (fun k => Q (.bl k) H) ∨ EqT2 K c sp E H a b fun r H' => Q (.bl r) H'
def oEqT2 (K : Frag) (c : Str) (sp : Sp) (E : XK) : R2 := fun x y H Q => match x, y with
  | .ref a, .ref b => EqOT2 K c sp E H a b Q
  | x, y => oEq K x y H Q
theorem op_eqT2 (hm : Meth X.K (He.ga X.K c) "__eq__" g) (F : FnR X.prog X.w X.K X.mg X.base (L2.CX X.prog X.w) k g sp) (hr : Room (k + 1) X.A) (hx : ∀ σ, PassesAt (L2.CX X.prog X.w) X σ E) : OpR X (compareOp .Eq) (oEqT2 X.K c sp E) := by
  have h1 : OpR X (compareOp .Eq) (oEqO X.K c sp E) := op_eqO hm F (hr.mono (Nat.le_succ _)) hx
  have h0 : OpR X (compareOp .Eq) (oEq X.K) := o_eq hr.units
  intro pins s σ H x y v u Q I rx ry q
  have two : ∀ a b, x = .ref a → y = .ref b → EqOT2 X.K c sp E H a b Q → wpAny (model X.prog X.w) X.A (compareOp .Eq v u) (EP X pins σ Q) X.xe s := by
    intro a b ex ey q1
    clear q
    subst ex ey
    rcases q1.ex with q | q
    · exact h1 pins s σ H _ _ v u Q I rx ry q
    · cases rx
      cases ry
      exact eqT2_run hm F hr hx I q
  cases x <;> cases y <;> first
    | exact two _ _ rfl rfl q
    | exact h0 pins s σ H _ _ v u Q I rx ry q
end
end S
namespace S
open PySem PySem.Spec PyProof.Rows L2 GenW
section
variable {prog : Program} {w : World} {A : Around} {R : GenEnd} {Y : Protocol} {n : Nat} {s₀ : Shared} {fs : List Frame} {s : Shared} {env : Env}
theorem seg_forLoop {target : Expr} {it : Value} {body : List Stmt}
    (h : wpAny (model prog w) (A.over (.forLoop target it body [] env) fs) (pyNext it) (fun r s' => match r with
      | none => Seg (model prog w) A R Y n s₀ (.block [] env) ((model prog w).den (.block [] env)) fs s'
      | some v => wpAny (model prog w) (A.over (.forLoop target it body [] env) fs) (letOwnedTupleGo target it v) (fun _ s1 => wpAny (model prog w) (A.over (.forLoop target it body [] env) fs) (assign target env v) (fun _ s2 =>
          Seg (model prog w) A R Y n s₀ (.forLoop target it body [] env) ((execs body env).wrap (fun f => match f with
            | .next | .cont => .pure (.again (.forLoop target it body [] env))
            | .brk => .pure (.done .next)
            | .ret v => .pure (.done (.ret v))) (fun e => (do noteFrame e env; theTreesLotGoes e : Sem Unit).wrap (fun _ => .raise e) .raise id id) id id) fs s2)
        (fun x s' => Seg (model prog w) A R Y n s₀ (.forLoop target it body [] env) ((do noteFrame x env; theTreesLotGoes x : Sem Unit).wrap (fun _ => .raise x) .raise id id) fs s') s1)
        (fun x s' => Seg (model prog w) A R Y n s₀ (.forLoop target it body [] env) ((do noteFrame x env; theTreesLotGoes x : Sem Unit).wrap (fun _ => .raise x) .raise id id) fs s') s')
      (fun x s' => Seg (model prog w) A R Y n s₀ (.forLoop target it body [] env) ((do noteFrame x env; theTreesLotGoes x : Sem Unit).wrap (fun _ => .raise x) .raise id id) fs s') s) :
    Seg (model prog w) A R Y n s₀ (.forLoop target it body [] env) ((model prog w).den (.forLoop target it body [] env)) fs s := by
  show Seg _ A R Y n s₀ _ ((forTurn target it body [] env).onRaise (fun x => do noteFrame x env; theTreesLotGoes x)) fs s
  have hx' : ∀ (x : Value) (s' : Shared), Seg (model prog w) A R Y n s₀ (.forLoop target it body [] env) ((do noteFrame x env; theTreesLotGoes x : Sem Unit).wrap (fun _ => .raise x) .raise id id) fs s' → Seg (model prog w) A R Y n s₀ (.forLoop target it body [] env) ((do noteFrame x env; theTreesLotGoes x : Sem Unit).bind fun _ => .raise x) fs s' := fun x s' hx => by
    rw [Sem.bind_eq_wrap]; exact hx
  unfold forTurn
  rw [Sem.onRaise_eq_wrap]
  refine seg_bind_wrap (wpAny_standAt ?_)
  refine seg_bind_wrap (wpAny_onRaise (wpAny_mono h (fun r s' hr => ?_) fun x s' hx => wpAny_standAt (hx' x s' hx)))
  cases r with
  | none => exact seg_again rfl hr
  | some v =>
    refine seg_bind_wrap (wpAny_mono hr (fun _ s1 h1 => ?_) fun x s' hx => hx' x s' hx)
    refine seg_bind_wrap (wpAny_mono h1 (fun _ s2 h2 => ?_) fun x s' hx => hx' x s' hx)
    rw [Sem.bind_eq_wrap', Sem.wrap_wrap]
    rw [Sem.wrap_congr (execs body env) _ _ (K' := fun f => match f with
            | .next | .cont => .pure (.again (.forLoop target it body [] env))
            | .brk => .pure (.done .next)
            | .ret v => .pure (.done (.ret v))) (H' := (fun e => (do noteFrame e env; theTreesLotGoes e : Sem Unit).wrap (fun _ => .raise e) .raise id id))
        (fun f => by cases f <;> rfl)
        (fun e => by first | exact Sem.bind_eq_wrap _ _ | (show (do noteFrame e env; theTreesLotGoes e : Sem Unit).bind (fun _ => .raise e) = _; rw [Sem.bind_eq_wrap]))]
    exact h2
theorem seg_block0 (h : Seg (model prog w) A R Y n s₀ (.block [] env) (.pure (.done .next)) fs s) : Seg (model prog w) A R Y n s₀ (.block [] env) ((model prog w).den (.block [] env)) fs s := h
end
section
variable {X : Cx}
def tGFor (wi : TI) (g : TG) (tb : TGn) : TGn := fun D ys σ H => wi σ H fun J H1 => ∃ W : Nat → Nat → List V → L2.St → Hp → Prop, (∃ m, W 0 m ys σ H1) ∧ ∀ i m ys σ H, W i m ys σ H →
  (J.stop i H ∧ D.nx ys σ H) ∨ (J.go i H ∧ ∃ N : List V → L2.St → Hp → Prop, (∀ ys' σ' H', N ys' σ' H' → ∃ m', m' < m ∧ W (i + 1) m' ys' σ' H') ∧ ∀ x H', J.yld i H x H' → g x σ H' fun σ2 H2 => tb { D with nx := N, ct := N, bk := D.nx } ys σ2 H2)
theorem gs_for {tg iter : Expr} {body : List Stmt} {wi : TI} {g : TG} {tb : TGn} {pos : Pos} (hp : PassesOwn (model X.prog X.w) X.A X.env X.xe) (hc : X.calm = true) (hi : PI X tg iter wi) (hg : PG X tg g) (hb : GSs X body tb)
    (hs : ∀ x, foldedSetIterable iter X.env x = pure x := by intro _; rfl) : GS X (.For tg iter body [] pos) (tGFor wi g tb) := by
  refine ⟨fun A S ip R n ys s₀ c fs K J gd lv s σ H D gc hn k hI ht => ?_⟩
  obtain ⟨acc, cc, r, I⟩ := hI
  rw [exec_For]
  refine seg_bind_wrap (wpAny_standAt ?_)
  refine seg_bind_wrap ?_
  rw [gc.over]
  refine wpAny_mono (hi.run _ s σ H _ I ht) (fun v s1 h1 => ?_) fun x s' hx => k.exc n s₀ x s' hx
  refine seg_bind_wrap (wpAny_of_eq (hs v) ?_)
  refine seg_bind_wrap (wpAny_standAt ?_)
  refine seg_bind_wrap (wpAny_holding ?_)
  rw [gc.over]
  refine wpAny_mono h1 (fun itv s2 h2 => ?_) fun x s' hx => k.exc n s₀ x s' hx
  obtain ⟨it, fp, tn, It, H2, e, I2, T, st2, f2, W, ⟨m0, w0⟩, turn⟩ := h2
  subst e
  refine seg_call fun p => ?_
  have gl := fun (kk : Result → Sem PySem.Fin) => gc_loop (k := kk) (c' := .forLoop tg (.ref it) body [] X.env) (l := lv []) (kp := []) (p := p) gc rfl rfl
  have fpS : ∀ b ∈ fp, b ≠ S := fun b hb e => (f2 b hb).2.2.2.2.2 (S, lstObj acc cc) (List.mem_append_right _ List.mem_cons_self) e.symm
  have stat : ∀ {H' : Hp} {acc' : Array Value} {cc' : Nat}, (∀ b ∈ fp, H' b = none) → ∀ b ∈ fp, FpOk X ((S, lstObj acc' cc') :: ip) H' b := fun hn b hb => by
    obtain ⟨_, q1, q2, q3, q4, q5⟩ := f2 b hb
    refine ⟨hn b hb, q1, q2, q3, q4, fun p hp => ?_⟩
    rcases List.mem_append.mp hp with hp | hp
    · exact q5 p (List.mem_append_left _ hp)
    · rcases List.mem_cons.mp hp with hp | hp
      · rw [hp]; exact (fpS b hb).symm
      · exact q5 p (List.mem_append_right _ (List.mem_cons_of_mem _ hp))
  have loop : ∀ (m i n : Nat) (ys : List V) (s₀ s : Shared) (σ : L2.St) (H : Hp), n + ys.length = sizeLine → W i m ys σ H → GI X S ip ys σ H s → tn i s.heap → (∀ b ∈ fp, H b = none) →
      Seg (model X.prog X.w) A R (GY X S) n s₀ (.forLoop tg (.ref it) body [] X.env) ((model X.prog X.w).den (.forLoop tg (.ref it) body [] X.env))
        (.ret (fun r => ((match r with | .ok f => (.pure f : Sem Flow) | .error e => .raise e).onRaise (cameBack X.env)).wrap K J gd lv) none (gd false) (lv []) c p [] :: fs) s := by
    intro m
    induction m using Nat.strongRecOn with
    | ind m ih =>
      intro i n ys s₀ s σ H hn w hI st fr
      have ee : ∀ (n : Nat) (s₀ : Shared) (x : Value) (s' : Shared), X.xe x s' → Seg (model X.prog X.w) A R (GY X S) n s₀ (.forLoop tg (.ref it) body [] X.env)
          ((do noteFrame x X.env; theTreesLotGoes x : Sem Unit).wrap (fun _ => .raise x) .raise id id)
          (.ret (fun r => ((match r with | .ok f => (.pure f : Sem Flow) | .error e => .raise e).onRaise (cameBack X.env)).wrap K J gd lv) none (gd false) (lv []) c p [] :: fs) s' := fun n s₀ x s' hx => by
        refine seg_wrap ?_
        rw [(gl _).over]
        refine wpAny_bind (wpAny_mono (hp x s' hx) (fun _ s'' hcb => wpAny_theTreesLotGoes ?_) fun y s'' hcb => ?_)
        · exact seg_leaf (.error x) (seg_cameBack gc k hcb)
        · exact seg_leaf (.error y) (seg_cameBack gc k hcb)
      refine seg_forLoop ?_
      rw [(gl _).over]
      obtain ⟨acc1, cc1, r1, I1⟩ := hI
      rcases turn i m ys σ H w with ⟨stop, qn⟩ | ⟨go, N, hN, step⟩
      · refine wpAny_mono (T.done X rfl rfl rfl hc i _ s σ H X.xe I1 (stat fr) st stop) (fun r s4 h4 => ?_) fun x s' hx => ee n s₀ x s' hx
        obtain ⟨hr, I4⟩ := h4
        subst hr
        refine seg_block0 ?_
        exact seg_leaf (.ok .next) (k.ok n ys s₀ s4 .next hn ⟨σ, H, ⟨acc1, cc1, r1, I4⟩, qn⟩)
      · refine wpAny_mono (T.item X rfl rfl rfl hc i _ s σ H X.xe I1 (stat fr) st go) (fun r s4 h4 => ?_) fun x s' hx => ee n s₀ x s' hx
        obtain ⟨u, hr, h4⟩ := h4
        subst hr
        refine wpAny_mono h4 (fun _ s5 h5 => ?_) fun x s' hx => ee n s₀ x s' hx
        obtain ⟨x, H5, I5, r5, y5, st5, fr5⟩ := h5
        have I5' := I5.pinned (stat fr5) (T.obj _ _ st5)
        refine wpAny_mono (hg.run _ s5 σ H5 x u _ I5' r5 (step x H5 y5)) (fun _ s6 h6 => ?_) fun x s' hx => ee n s₀ x s' hx
        obtain ⟨σ6, H6, I6, q6⟩ := h6
        have gl' : GC X S (ip ++ pinsAt fp s5.heap) A (.forLoop tg (.ref it) body [] X.env) (.ret (fun r => ((match r with | .ok f => (.pure f : Sem Flow) | .error e => .raise e).onRaise (cameBack X.env)).wrap K J gd lv) none (gd false) (lv []) c p [] :: fs) id :=
          ⟨gc.pn, fun q hq => (List.mem_append.mp hq).elim (fun z => gc.ip q z) fun z => fpS _ (of_pinsAt z).1, gc.apart, (gl _).over, (gl _).split, (gl _).guard, rfl⟩
        have again : ∀ {ys' : List V} {σ7 : L2.St} {H7 : Hp} {s7 : Shared} {n' : Nat} {s₀' : Shared}, n' + ys'.length = sizeLine → GI X S (ip ++ pinsAt fp s5.heap) ys' σ7 H7 s7 → N ys' σ7 H7 → Seg (model X.prog X.w) A R (GY X S) n' s₀' (.forLoop tg (.ref it) body [] X.env) (.pure (.again (.forLoop tg (.ref it) body [] X.env)))
            (.ret (fun r => ((match r with | .ok f => (.pure f : Sem Flow) | .error e => .raise e).onRaise (cameBack X.env)).wrap K J gd lv) none (gd false) (lv []) c p [] :: fs) s7 := by
          intro ys' σ7 H7 s7 n' s₀' hn' g7 n7
          obtain ⟨m', hm, w7⟩ := hN ys' σ7 H7 n7
          obtain ⟨acc7, cc7, r7, I7⟩ := g7
          have pin : ∀ b ∈ fp, ∀ o, s5.heap.get? b = some o → s7.heap.get? b = some o ∧ H7 b = none := fun b hb o e => by
            have := I7.pin (b, o) (List.mem_append_right _ (List.mem_cons_of_mem _ (List.mem_append_right _ (mem_pinsAt hb e))))
            exact ⟨this.1, this.2.1⟩
          refine seg_again rfl (ih m' hm (i + 1) n' ys' s₀' s7 σ7 H7 hn' w7 ⟨acc7, cc7, r7, I7.pins_of fun q hq => ?_⟩ (T.keep _ _ _ st5 fun b hb o e => (pin b hb o e).1) fun b hb => ?_)
          · rcases List.mem_cons.mp hq with hq | hq
            · rw [hq]; exact I7.pin _ (List.mem_append_right _ List.mem_cons_self)
            · exact I7.pin q (List.mem_append_right _ (List.mem_cons_of_mem _ (List.mem_append_left _ hq)))
          · obtain ⟨o, e, d⟩ := T.obj _ _ st5 b hb
            exact (pin b hb o e).2
        have unpin : ∀ {ys' : List V} {σ7 : L2.St} {H7 : Hp} {s7 : Shared}, GI X S (ip ++ pinsAt fp s5.heap) ys' σ7 H7 s7 → GI X S ip ys' σ7 H7 s7 := by
          rintro ys' σ7 H7 s7 ⟨acc7, cc7, r7, I7⟩
          refine ⟨acc7, cc7, r7, I7.pins_of fun q hq => ?_⟩
          rcases List.mem_cons.mp hq with hq | hq
          · rw [hq]; exact I7.pin _ (List.mem_append_right _ List.mem_cons_self)
          · exact I7.pin q (List.mem_append_right _ (List.mem_cons_of_mem _ (List.mem_append_left _ hq)))
        refine hb.run A S (ip ++ pinsAt fp s5.heap) R n ys s₀ _ _ _ _ id id s6 σ6 H6 { D with nx := N, ct := N, bk := D.nx } gl' hn ⟨fun n' ys' s₀' s7 f hn' hs => ?_, fun n' s₀' x s7 hx => ee n' s₀' x s7 hx⟩ ⟨acc1, cc1, r1, I6⟩ q6
        cases f with
        | next =>
          obtain ⟨σ7, H7, I7, n7⟩ := hs
          exact again hn' I7 n7
        | cont =>
          obtain ⟨σ7, H7, I7, n7⟩ := hs
          exact again hn' I7 n7
        | brk =>
          obtain ⟨σ7, H7, I7, q7⟩ := hs
          exact seg_leaf (.ok .next) (k.ok n' ys' s₀' s7 .next hn' ⟨σ7, H7, unpin I7, q7⟩)
        | ret v =>
          obtain ⟨y, σ7, H7, I7, r7, q7⟩ := hs
          exact seg_leaf (.ok (.ret v)) (k.ok n' ys' s₀' s7 (.ret v) hn' ⟨y, σ7, H7, unpin I7, r7, q7⟩)
  exact loop m0 0 n ys s₀ s2 σ H2 hn w0 ⟨acc, cc, r, I2⟩ st2 fun b hb => (f2 b hb).1
end
end S
namespace S
open PySem PySem.Spec PyProof.Rows L2 GenW
/-- named rests of a generator's body -/
def gstop (t : TGn) : TGn := fun D ys σ H => Stop (fun _ σ H => t D ys σ H) { nx := fun _ _ => True, rt := fun _ _ => True } σ H
theorem gss_stop {X : Cx} {st : List Stmt} {t : TGn} (h : GSs X st t) : GSs X st (gstop t) := ⟨fun A S ip R n ys s₀ c fs K J gd lv s σ H D g hn k hI ht => h.run A S ip R n ys s₀ c fs K J gd lv s σ H D g hn k hI ht.go⟩
theorem gss_one {X : Cx} {st : Stmt} {t : TGn} (h : GS X st t) : GSs X [st] t := by
  have h2 := gss_cons h (gss_nil (X := X))
  exact ⟨fun A S ip R n ys s₀ c fs K J gd lv s σ H D g hn k hI ht => h2.run A S ip R n ys s₀ c fs K J gd lv s σ H D g hn k hI ht⟩
def tGIf (c : TT) (t u : TGn) : TGn := fun D ys σ H => c σ H fun b H1 => bIf b (t D ys σ H1) (u D ys σ H1)
theorem gs_if {X : Cx} {test : Expr} {body orelse : List Stmt} {pos : Pos} {c : TT} {t u : TGn} (hc : PT X test c) (ha : GSs X body t) (hb : GSs X orelse u) : GS X (.If test body orelse pos) (tGIf c t u) := by
  refine ⟨fun A S ip R n ys s₀ cd fs K J gd lv s σ H D g hn k hI ht => ?_⟩
  obtain ⟨acc, cc, r, I⟩ := hI
  show Seg _ _ _ _ _ _ _ ((do standAt pos; if ← isTrue test X.env (eval test X.env) then execs body X.env else execs orelse X.env : Sem Flow).wrap K J gd lv) _ _
  refine seg_bind_wrap (wpAny_standAt ?_)
  refine seg_bind_wrap ?_
  rw [g.over]
  refine wpAny_mono (hc.run _ s σ H _ I ht) (fun b s' hb' => ?_) fun x s' hx => k.exc n s₀ x s' hx
  obtain ⟨H2, I2, q2⟩ := hb'
  cases b with
  | true =>
    rw [if_pos rfl]
    exact ha.run A S ip R n ys s₀ cd fs K J gd lv s' σ H2 D g hn k ⟨acc, cc, r, I2⟩ q2
  | false =>
    rw [if_neg Bool.false_ne_true]
    exact hb.run A S ip R n ys s₀ cd fs K J gd lv s' σ H2 D g hn k ⟨acc, cc, r, I2⟩ q2
/-- what a def that hands out may let out: no StopIteration -/
def EN (K : Frag) (E : XK) : XK := fun cls d H => E cls d H ∧ PySem.W.subIn K cls (.type "StopIteration") = some false
/-- a generator def at an address -/
def GFR (P : Program) (w : World) (K : Frag) (mg : Str → Option Value) (base : Heap) (k : Nat) (f : Addr) (sp : SpG) : Prop :=
  ∀ (A : Around) (outer : List Env) (s : Shared) (H : Hp) (us : List Value) (vs : List V) (Q : List V → Hp → Prop) (E : XK), Room k A → Env0 P w K mg base A outer s H → Vals vs us → sp vs H Q E →
    codeAny (model P w) A (.call (.ref f) ⟨us, []⟩) (fun r s' => match r with | .ok (.ret u) => GMade P w k outer H s [] Q E u s' | _ => False) s
structure GFK (P : Program) (w : World) (K : Frag) (mg : Str → Option Value) (base : Heap) (k : Nat) (f : Addr) (n : Nat) (ks : List Str) (sp : SpG) (gV : List V → List V → List V) : Prop where
  ex : ∃ (fd : FuncData) (ps : List Str) (g : List Value → List Value → List Value), GFn P w K mg base k f fd ps sp ∧ KBn K fd ps n ks g gV
def spDG (sp : SpG) (dvs : List V) : SpG := fun vs H Q E => sp (vs ++ dvs) H Q E
abbrev cxG (P : Program) (w : World) (K : Frag) (mg : Str → Option Value) (base : Heap) (N : List Str) (qual : Str) (scope : Scope) (f : Addr) (cd : Value) (A : Around) (outer : List Env) (s : Shared) (H : Hp) (E : XK) (pn : List (Addr × Obj)) : Cx := gcxOf P w K mg base N qual scope f cd A outer s H E pn
section
variable {P : Program} {w : World} {K : Frag} {mg : Str → Option Value} {base : Heap} {x qual : Str} {params : Arguments} {body : List Stmt} {scope : Scope} {dvs : List V} {kws : List (Str × V)} {f : Addr} {fd : FuncData}
theorem FunD.gok {N ps : List Str} {k : Nat} {sp : SpG} (F : FunD K x qual params body scope dvs kws f fd) (S : GScope N ps scope) (len : ∀ vs H Q E, sp vs H Q E → vs.length = ps.length)
    {t : XK → TGn} (hbody : ∀ (cdv : Value) (A : Around) (outer : List Env) (s : Shared) (H : Hp) (E : XK) (pn : List (Addr × Obj)), Room k (A.deeper (envOfC qual scope s.heap.objs.size f cdv)) → GSs (cxG P w K mg base N qual scope f cdv A outer s H E pn) body (t E))
    (pure : ∀ vs H Q E, sp vs H Q E → t E { nx := fun ys _ H' => Q ys H', rt := fun ys v H' => v = .non ∧ Q ys H' } [] (start N vs) H) : GFn P w K mg base (k + 1) f fd ps sp := by
  obtain ⟨oc, od, dV, kV, doc, pm, an, cdv, ct, osl, rfl, lk, hcd, _, _⟩ := F.ex
  exact gfn_of lk hcd S len fun A outer s H vs Q E pn hr hsp => ⟨t E, hbody cdv A outer s H E pn hr, pure vs H Q E hsp⟩
theorem GFn.raw {k : Nat} {sp : SpG} {ps : List Str} {ds : List Value} {ex : List V} (F : GFn P w K mg base k f fd ps sp) (hb : Binds K fd ps ds) (hd : Vals ex ds) : GFR P w K mg base k f (spDG sp ex) := by
  intro A outer s H us vs Q E hr e0 r h
  have r2 : Vals (vs ++ ex) (us ++ ds) := r.append hd
  have hl2 : (us ++ ds).length = ps.length := by rw [← r2.length]; exact F.len _ _ _ _ h
  exact F.run A outer s H ⟨us, []⟩ (us ++ ds) (vs ++ ex) Q E hr e0 (hb s us (e0.mod.kin.keeps fun b o e => (e0.bs b o e).1) hl2) r2 h
theorem mk_gfn {N ps : List Str} {k : Nat} {sp : SpG} {ex : List V} (F : FunD K x qual params body scope dvs kws f fd) (S : GScope N ps scope) (len : ∀ vs H Q E, sp vs H Q E → vs.length = ps.length) (hb : ∃ ds, Vals ex ds ∧ Binds K fd ps ds)
    {t : XK → TGn} (hbody : ∀ (cdv : Value) (A : Around) (outer : List Env) (s : Shared) (H : Hp) (E : XK) (pn : List (Addr × Obj)), Room k (A.deeper (envOfC qual scope s.heap.objs.size f cdv)) → GSs (cxG P w K mg base N qual scope f cdv A outer s H E pn) body (t E))
    (pure : ∀ vs H Q E, sp vs H Q E → t E { nx := fun ys _ H' => Q ys H', rt := fun ys v H' => v = .non ∧ Q ys H' } [] (start N vs) H) : GFR P w K mg base (k + 1) f (spDG sp ex) := by
  obtain ⟨ds, hv, hb⟩ := hb
  exact GFn.raw (FunD.gok (P := P) (w := w) (mg := mg) (base := base) F S len hbody pure) hb hv
theorem spDG_nil {k : Nat} {sp : SpG} (F : GFR P w K mg base k f (spDG sp [])) : GFR P w K mg base k f sp := fun A outer s H us vs Q E hr e0 r h => F A outer s H us vs Q E hr e0 r (by show sp (vs ++ []) H Q E; rw [List.append_nil]; exact h)
theorem mk_gfnK {N ps ks : List Str} {k n : Nat} {sp : SpG} {gV : List V → List V → List V} (F : FunD K x qual params body scope dvs kws f fd) (S : GScope N ps scope) (len : ∀ vs H Q E, sp vs H Q E → vs.length = ps.length) (hb : ∃ g, KBn K fd ps n ks g gV)
    {t : XK → TGn} (hbody : ∀ (cdv : Value) (A : Around) (outer : List Env) (s : Shared) (H : Hp) (E : XK) (pn : List (Addr × Obj)), Room k (A.deeper (envOfC qual scope s.heap.objs.size f cdv)) → GSs (cxG P w K mg base N qual scope f cdv A outer s H E pn) body (t E))
    (pure : ∀ vs H Q E, sp vs H Q E → t E { nx := fun ys _ H' => Q ys H', rt := fun ys v H' => v = .non ∧ Q ys H' } [] (start N vs) H) : GFK P w K mg base (k + 1) f n ks sp gV := by
  obtain ⟨g, hb⟩ := hb
  exact ⟨fd, ps, g, FunD.gok (P := P) (w := w) (mg := mg) (base := base) F S len hbody pure, hb⟩
end
theorem passG {P : Program} {w : World} {K : Frag} {mg : Str → Option Value} {base : Heap} {N : List Str} {qual : Str} {scope : Scope} {f : Addr} {cd : Value} {A : Around} {outer : List Env} {s : Shared} {H : Hp} {E : XK} {pn : List (Addr × Obj)} :
    ∀ σ, PassesAt (L2.CX P w) (cxG P w K mg base N qual scope f cd A outer s H E pn) σ (EW E σ) := fun σ => passAt takes_gcx σ
theorem ownG {P : Program} {w : World} {K : Frag} {mg : Str → Option Value} {base : Heap} {N : List Str} {qual : Str} {scope : Scope} {f : Addr} {cd : Value} {A : Around} {outer : List Env} {s : Shared} {H : Hp} {E : XK} {pn : List (Addr × Obj)} :
    PassesOwn (model P w) (cxG P w K mg base N qual scope f cd A outer s H E pn).A (cxG P w K mg base N qual scope f cd A outer s H E pn).env (cxG P w K mg base N qual scope f cd A outer s H E pn).xe := owns_gcx
/-! ### generators as values -/
abbrev TGenE := XK → TGen
section
variable {X : Cx} {k n : Nat} {f g : Addr} {sp : SpG} {x c m : Str} {p pos pos' apos : Pos} {e o : Expr} {es : List Expr} {t tk : TA} {ta : TE} {gV : List V → List V → List V} {ks : List Str} {kws : List Keyword}
structure PGenE (X : Cx) (k : Nat) (e : Expr) (tg : TGenE) : Prop where
  run : ∀ E, PGen X k e (tg E) E
theorem run_gfr {pins : List (Addr × Obj)} {σ : L2.St} {H : Hp} {s : Shared} {us : List Value} {vs : List V} {cont : List V → Hp → Prop} {E : XK} {E1 : Value → Shared → Prop} (F : GFR X.prog X.w X.K X.mg X.base k f sp) (hr : Room k X.A)
    (I : Inv X pins σ H s) (r : Vals vs us) (h : sp vs H cont E) :
    wpAny (model X.prog X.w) X.A (call (.ref f) us) (fun u s' => ∃ H1 sc ex, Inv X pins σ H1 sc ∧ ExOk X pins ex ∧ GMade X.prog X.w k X.stack H1 sc ex cont E u s') E1 s := by
  refine wpAny_call (codeAny_mono (F X.A X.stack s H us vs cont E hr I.env0 r h) fun r s' hq => ?_)
  cases r with
  | error e => exact False.elim hq
  | ok fl =>
    cases fl with
    | ret u => exact ⟨H, s, [], I, .nil, hq⟩
    | next => exact False.elim hq
    | brk => exact False.elim hq
    | cont => exact False.elim hq
/-- o.m(), o an instance with slots -/
def tMethGS (K : Frag) (c : Str) (sp : SpG) (ta : TE) : TGenE := fun E σ H cont => ta σ H fun x H1 => match x with
  | .ref a => IsO K H1 c a (sp [.ref a] H1 cont E)
  | _ => False
theorem pgen_methS0 {pl : Sem Bool} (hc : SlX.SCls X.K (He.ga X.K c)) (hm : Meth X.K (He.ga X.K c) m g) (F : GFR X.prog X.w X.K X.mg X.base k g sp) (hr : Room k X.A) (he : PE X o ta)
    (ht : eval (.Call (.Attribute o m apos) [] [] pos) X.env = (do
      let ov ← eval o X.env
      standAt apos.atName
      let (f, first) ← holding [ov] (getMethod ov m pl)
      callWith pos f first (backTo pos (starEach [] X.env)) (backToKw pos (keywordEach [] X.env))) := by rfl) :
    PGenE X k (.Call (.Attribute o m apos) [] [] pos) (tMethGS X.K c sp ta) := by
  refine ⟨fun E => ⟨fun pins s σ H cont I h => ?_⟩⟩
  refine PySem.W.methodCall_KW (pl := pl) (thn (he.run pins s σ H _ I h) fun u s1 ⟨x, H1, I1, rx, q⟩ => ?_) ht
  cases x <;> try exact q.elim
  cases rx
  obtain ⟨⟨dx, vs, hsl⟩, q⟩ := q
  refine SlX.getmethsl_ok I1 hsl hc hm ?_
  exact PySem.W.callWith_K0 (first := [.ref _]) I1.kIn hm.kp (run_gfr (us := [.ref _]) (vs := [.ref _]) F hr I1 (.cons rfl .nil) q)
/-- f(e, ..) -/
def tCallGE (sp : SpG) (t : TA) : TGenE := fun E σ H cont => t σ H fun vs H1 => sp vs H1 cont E
theorem pgen_callR (F : GFR X.prog X.w X.K X.mg X.base k f sp) (hr : Room k X.A) (hm : X.mg x = some (.ref f)) (hk : PySem.W.keepIn X.K (.ref f) = true) (ha : PA X (e :: es) t) (hg : Gl X x := by rfl) (hdb : (x == ("__debug__" : Str)) = false := by decide)
    (he : starEach (e :: es) X.env = (false, eval e X.env) :: starEach es X.env := by rfl) (hpl : (backTo pos' (starEach es X.env)).any (·.1) = false := by rfl) :
    PGenE X k (.Call (.Name x p) (e :: es) [] pos') (tCallGE sp t) := by
  refine ⟨fun E => ⟨fun pins s σ H cont I h => ?_⟩⟩
  refine wpAny_Call_Name_kw (ld_glob I hg hm ?_ hdb)
  refine PySem.W.callWith_K (h₀ := X.base) I.ok.mod.kin hk (thn (ha.run pos' pins s σ H _ I h) fun us s1 ⟨vs, H1, I1, r, q⟩ => ⟨I1.kIn, ?_⟩) he hpl
  exact run_gfr F hr I1 r q
/-- list(g), what it may raise wished for at the caller's slots -/
def tListGE (K : Frag) (tg : TGenE) (E : L2.St → XK) : TE := fun σ H Q => tg (EN K (E σ)) σ H fun out H2 => ∀ p, H2 p = none → Q (.ref p) (upd H2 p (.lst out))
theorem pe_listGE {nm : Str} {tg : TGenE} {E : L2.St → XK} (h : PGenE X k e tg) (hx : ∀ σ, PassesAt (L2.CX X.prog X.w) X σ (E σ)) (hr : Room (k + 3) X.A) (hmg : X.mg nm = none) (hv : bootBuiltins nm = some (.type "list")) (hg : Gl X nm := by rfl) (hnm : nm ≠ "__name__" := by decide) (hdb : (nm == ("__debug__" : Str)) = false := by decide)
    (he : starEach [e] X.env = (false, eval e X.env) :: starEach [] X.env := by rfl) : PE X (.Call (.Name nm p) [e] [] pos) (tListGE X.K tg E) := by
  refine ⟨fun pins s σ H Q I hq => ?_⟩
  refine wpAny_Call_Name_kw (ld_blt I hg hmg hv ?_ hnm hdb)
  refine PyProof.Rows.callWith_type1 ?_ he rfl
  rw [he]
  show wpAny _ _ (spliced ((false, eval e X.env) :: backTo pos (starEach [] X.env))) _ _ s
  refine Calls.spliced_cons (thn ((h.run (EN X.K (E σ))).run pins s σ H _ I hq) fun u s1 ⟨H1, sc, ex, I1, hex, hG⟩ => ?_)
  refine Calls.spliced_nil ?_
  have hsz : sc.heap.objs.size ≤ s1.heap.objs.size := by
    obtain ⟨a, g, c, _, h1, h2, _⟩ := hG
    exact Nat.le_trans h1 (Nat.le_of_lt h2)
  refine call_list_new hr I1.ok.frames hG (fun S s' acc c H' ys q0 q1 q2 hl q3 q4 q5 q6 q7 q8 => ?_) fun e s' g hc => ?_
  · exact ⟨.ref S, upd H' S (.lst ys), I1.drained (Nat.le_trans hsz q0) hl q1 q2 hex q3 q4 q5 q6 q7, rfl, q8 S q7⟩
  · have kin : X.K.In s'.heap := by
      obtain ⟨a, B, H', cls, d, _, fl, _, ub, _⟩ := id hc
      refine I1.ok.mod.kin.keeps fun b o eb => fl.1 b o (ub.keep b o (I1.bs b o eb).1 (I1.bs b o eb).2 fun hm => ?_)
      rcases List.mem_cons.mp (I1.stkSub b hm) with z | z
      · have h1 := Heap.lt_size eb
        have h2 := Nat.le_trans I1.ok.bsz I1.ok.above
        rw [z] at h1
        exact absurd (Nat.lt_of_lt_of_le h1 h2) (Nat.lt_irrefl _)
      · exact I1.ok.nofr eb z
    refine ⟨notStop_of (fun _ _ _ z => z.2) kin hc, hx σ pins H1 sc e _ I1 ?_⟩
    obtain ⟨a, B, H', cls, d, z1, fl, z2, ub, z3, z4, z5, z6⟩ := hc
    exact ⟨a, B, H', cls, d, z1, fl, z2, ub, z3, z4, allBare_setGen z5 rfl, z6.1⟩
end
end S
namespace S
open PySem PySem.Spec PyProof.Rows L2
def GLoopR (D : GEnds) (ys : List V) (g : TG) (tb : TGn) (σ : L2.St) : It → Hp → Prop := fun J H1 => ∃ W : Nat → Nat → List V → L2.St → Hp → Prop, (∃ m, W 0 m ys σ H1) ∧ ∀ i m ys σ H, W i m ys σ H →
  (J.stop i H ∧ D.nx ys σ H) ∨ (J.go i H ∧ ∃ N : List V → L2.St → Hp → Prop, (∀ ys' σ' H', N ys' σ' H' → ∃ m', m' < m ∧ W (i + 1) m' ys' σ' H') ∧ ∀ x H', J.yld i H x H' → g x σ H' fun σ2 H2 => tb { D with nx := N, ct := N, bk := D.nx } ys σ2 H2)
def dGFor (wi : TI) (g : TG) (tb : TGn) : TGn := fun D ys σ H => wi σ H (GLoopR D ys g tb σ)
theorem gs_dfor {X : Cx} {tg iter : Expr} {body : List Stmt} {wi : TI} {g : TG} {tb : TGn} {pos : Pos} (hp : PassesOwn (model X.prog X.w) X.A X.env X.xe) (hc : X.calm = true) (hi : PI X tg iter wi) (hg : PG X tg g) (hb : GSs X body tb)
    (hs : ∀ x, foldedSetIterable iter X.env x = pure x := by intro _; rfl) : GS X (.For tg iter body [] pos) (dGFor wi g tb) := gs_for hp hc hi hg hb hs
section
variable {K : Frag} {a b : Addr} {xs zs : List V} {g : TG} {tb : TGn} {D : GEnds} {ys : List V} {σ : L2.St} {H : Hp}
theorem gfor_list (Pv : Nat → List V → L2.St → Hp → Prop) (h0 : Pv 0 ys σ H) (hl : ∀ i ys σ H, i ≤ xs.length → Pv i ys σ H → SqL K H a xs)
    (hs : ∀ i x ys σ H, xs[i]? = some x → Pv i ys σ H → g x σ H fun σ2 H2 => tb { D with nx := Pv (i + 1), ct := Pv (i + 1), bk := D.nx } ys σ2 H2) (hd : ∀ ys σ H, Pv xs.length ys σ H → D.nx ys σ H) : GLoopR D ys g tb σ (Itl K a) H := by
  refine ⟨fun i m ys σ H => m = xs.length - i ∧ i ≤ xs.length ∧ Pv i ys σ H, ⟨xs.length, by simp, Nat.zero_le _, h0⟩, ?_⟩
  rintro i m ys σ H ⟨rfl, hi, p⟩
  have q := hl i ys σ H hi p
  by_cases hlt : i < xs.length
  · refine .inr ⟨⟨xs, xs[i], q, by simp [hlt]⟩, Pv (i + 1), fun ys' σ' H' p' => ⟨xs.length - (i + 1), by omega, rfl, hlt, p'⟩, fun x H' y => ?_⟩
    obtain ⟨e, y⟩ := y
    subst e
    exact hs i x ys σ _ (y xs q) p
  · have e : i = xs.length := by omega
    subst e
    exact .inl ⟨⟨xs, q, Nat.le_refl _⟩, hd ys σ H p⟩
theorem gfor_tup (Pv : Nat → List V → L2.St → Hp → Prop) (h0 : Pv 0 ys σ H) (hl : ∀ i ys σ H, i ≤ xs.length → Pv i ys σ H → SqT K H a xs)
    (hs : ∀ i x ys σ H, xs[i]? = some x → Pv i ys σ H → g x σ H fun σ2 H2 => tb { D with nx := Pv (i + 1), ct := Pv (i + 1), bk := D.nx } ys σ2 H2) (hd : ∀ ys σ H, Pv xs.length ys σ H → D.nx ys σ H) : GLoopR D ys g tb σ (Itt K a) H := by
  refine ⟨fun i m ys σ H => m = xs.length - i ∧ i ≤ xs.length ∧ Pv i ys σ H, ⟨xs.length, by simp, Nat.zero_le _, h0⟩, ?_⟩
  rintro i m ys σ H ⟨rfl, hi, p⟩
  have q := hl i ys σ H hi p
  by_cases hlt : i < xs.length
  · refine .inr ⟨⟨xs, xs[i], q, by simp [hlt]⟩, Pv (i + 1), fun ys' σ' H' p' => ⟨xs.length - (i + 1), by omega, rfl, hlt, p'⟩, fun x H' y => ?_⟩
    obtain ⟨e, y⟩ := y
    subst e
    exact hs i x ys σ _ (y xs q) p
  · have e : i = xs.length := by omega
    subst e
    exact .inl ⟨⟨xs, q, Nat.le_refl _⟩, hd ys σ H p⟩
theorem gfor_seq (Pv : Nat → List V → L2.St → Hp → Prop) (hx : SqA K H a xs) (h0 : Pv 0 ys σ H) (hl : ∀ i ys σ H', i ≤ xs.length → Pv i ys σ H' → Stay K a H H')
    (hs : ∀ i x ys σ H, xs[i]? = some x → Pv i ys σ H → g x σ H fun σ2 H2 => tb { D with nx := Pv (i + 1), ct := Pv (i + 1), bk := D.nx } ys σ2 H2) (hd : ∀ ys σ H, Pv xs.length ys σ H → D.nx ys σ H) : Walk K H a (GLoopR D ys g tb σ) := by
  rcases hx with hx | hx
  · exact ⟨.inl ⟨⟨xs, hx⟩, gfor_list Pv h0 (fun i ys σ H' hi q => (hl i ys σ H' hi q xs).1 hx) hs hd⟩⟩
  · exact ⟨.inr ⟨⟨xs, hx⟩, gfor_tup Pv h0 (fun i ys σ H' hi q => (hl i ys σ H' hi q xs).2 hx) hs hd⟩⟩
/-- zip of two lists of one length -/
theorem gfor_zip (hl : xs.length = zs.length) (Pv : Nat → List V → L2.St → Hp → Prop) (h0 : Pv 0 ys σ H) (hq : ∀ i ys σ H, Pv i ys σ H → SqL K H a xs ∧ SqL K H b zs)
    (hs : ∀ (i : Nat) (x y : V) (T : Addr) (ys : List V) (σ : L2.St) (H : Hp), xs[i]? = some x → zs[i]? = some y → Pv i ys σ H → H T = none → g (.ref T) σ (upd H T (.tup [x, y])) fun σ2 H2 => tb { D with nx := Pv (i + 1), ct := Pv (i + 1), bk := D.nx } ys σ2 H2)
    (hd : ∀ ys σ H, Pv xs.length ys σ H → D.nx ys σ H) : GLoopR D ys g tb σ (Itz K a b) H := by
  refine ⟨fun i m ys σ H => m = xs.length - i ∧ i ≤ xs.length ∧ Pv i ys σ H, ⟨xs.length, rfl, Nat.zero_le _, h0⟩, ?_⟩
  rintro i m ys σ H ⟨rfl, hi, p⟩
  obtain ⟨qx, qy⟩ := hq i ys σ H p
  by_cases hlt : i < xs.length
  · have hx : xs[i]? = some xs[i] := List.getElem?_eq_getElem hlt
    have hlt2 : i < zs.length := by omega
    have hy : zs[i]? = some zs[i] := List.getElem?_eq_getElem hlt2
    refine .inr ⟨⟨xs, zs, _, _, qx, qy, hx, hy⟩, Pv (i + 1), fun ys' σ' H' p' => ⟨xs.length - (i + 1), by omega, rfl, hlt, p'⟩, fun v H' y => ?_⟩
    obtain ⟨T, x', y', rfl, hT, rfl, f1, f2⟩ := y
    exact hs i x' y' T ys σ H (f1 xs qx) (f2 zs qy) p hT
  · have e : i = xs.length := by omega
    subst e
    exact .inl ⟨⟨xs, zs, qx, qy, Or.inl (Nat.le_refl _)⟩, hd ys σ H p⟩
/-- one for zips outside of generators -/
theorem for_zip {tb : TS} {D : L2.Ends} (hl : xs.length = zs.length) (Pv : Nat → L2.St → Hp → Prop) (h0 : Pv 0 σ H) (hq : ∀ i σ H, Pv i σ H → SqL K H a xs ∧ SqL K H b zs)
    (hs : ∀ (i : Nat) (x y : V) (T : Addr) (σ : L2.St) (H : Hp), xs[i]? = some x → zs[i]? = some y → Pv i σ H → H T = none → g (.ref T) σ (upd H T (.tup [x, y])) fun σ2 H2 => tb { D with nx := Pv (i + 1), ct := Pv (i + 1), bk := D.nx } σ2 H2) (hd : ∀ σ H, Pv xs.length σ H → D.nx σ H) : LoopR D g tb σ (Itz K a b) H :=
  RZ.for_zipL hl Pv h0 hq hs hd
end
/-! ### a < b < c < d as a test -/
def dChain3T (r r' r'' : R2) (ta tb tc td : TE) : TT := fun σ H Q => ta σ H fun x H1 => tb σ H1 fun y H2 => r x y H2 (isB fun k H3 => bIf k (tc σ H3 fun z H4 => r' y z H4 (isB fun k2 H5 => bIf k2 (td σ H5 fun w' H6 => r'' z w' H6 (isB Q)) (Q false H5))) (Q false H3))
theorem pt_chain3 {X : Cx} {op op' op'' : CmpOp} {a b c d : Expr} {r r' r'' : R2} {ta tb tc td : TE} {pos : Pos} (ho : OpR X (compareOp op) r) (ho' : OpR X (compareOp op') r') (ho'' : OpR X (compareOp op'') r'') (ha : PE X a ta) (hb : PE X b tb) (hc : PE X c tc) (hd : PE X d td)
    (hm : lastMarks [op, op', op''] [b, c, d] = false := by with_unfolding_all rfl) : PT X (.Compare a [op, op', op''] [b, c, d] pos) (dChain3T r r' r'' ta tb tc td) := by
  refine ⟨fun pins s σ H Q I h => ?_⟩
  refine isTrue_chain (thn (ha.run pins s σ H _ I h) fun v s1 ⟨x, H1, I1, r1, q1⟩ => test_link (thn (hb.run pins s1 σ H1 _ I1 q1) fun u s2 ⟨y, H2, I2, r2, q2⟩ =>
    thn (ho pins s2 σ H2 x y v u _ I2 r1 r2 q2) fun d s3 ⟨z, H3, I3, r3, q3⟩ => ?_)) hm
  obtain ⟨k, e, q3⟩ := isB_ex q3
  subst e
  cases r3
  refine wpAny_truthy_bool ?_
  cases k with
  | false => exact ite_ff ⟨H3, I3, q3⟩
  | true =>
    refine ite_tt (test_link (thn (hc.run pins s3 σ H3 _ I3 q3) fun w' s4 ⟨z', H4, I4, r4, q4⟩ => thn (ho' pins s4 σ H4 y z' u w' _ I4 r2 r4 q4) fun d' s5 ⟨z2, H5, I5, r5, q5⟩ => ?_))
    obtain ⟨k2, e2, q5⟩ := isB_ex q5
    subst e2
    cases r5
    refine wpAny_truthy_bool ?_
    cases k2 with
    | false => exact ite_ff ⟨H5, I5, q5⟩
    | true =>
      refine ite_tt (test_last (thn (hd.run pins s5 σ H5 _ I5 q5) fun w2 s6 ⟨z6, H6, I6, r6, q6⟩ => thn (ho'' pins s6 σ H6 z' z6 w' w2 _ I6 r4 r6 q6) fun d2 s7 ⟨z7, H7, I7, r7, q7⟩ => ?_))
      obtain ⟨k3, e3, q7⟩ := isB_ex q7
      subst e3
      cases r7
      exact wpAny_truthy_bool ⟨H7, I7, q7⟩
end S
namespace S
open PySem PySem.Spec PyProof.Rows L2
set_option maxRecDepth 8000 in
theorem extend_tupA (l : Addr) (items : Array Value) (n : Nat) (b : Addr) (od : Option Addr) (osl : Array (Option Value)) (items2 : Array Value) (n2 : Nat) (hs0 : ¬(!items.isEmpty && Builtin.List.listTooLong (items.size + items2.size)) = true) (hs1 : items.size ≤ sizeLine) (hs2 : items.size + items2.size ≤ sizeLine + 1) :
    Meets (Builtin.«list.extend» ⟨[.ref l, .ref b], []⟩) (fun _ R s => s.heap.get? l = some { cls := .type "list", dict := none, data := .seq items n, slots := #[] } ∧ s.heap.get? b = some { cls := .type "tuple", dict := od, data := .seq items2 n2, slots := osl } ∧ R (.ok (.ret Value.none)) { s with heap := s.heap.update l (Obj.mapSeq fun x => x ++ items2), toks := s.toks }) :=
  .of_wp fun prog w A R s h => by
    obtain ⟨hp, g, d, tk, os⟩ := s; obtain ⟨hl, hb, h⟩ := h; have f1 := AutoSeq1.idx_int; have f2 := AutoSeq1.sub_tuple_tuple; have f3 := AutoSeq1.sub_list_list; have f4 := AutoSeq1.sub_tuple_list; have f5 := AutoSeq1.sub_list_tuple;
    have hz' : (items ++ items2).size ≤ sizeLine + 1 := by rw [Array.size_append]; exact hs2
    wp_walk using (wpAny_updateSeq hl rfl (hz := hs1) (_hz' := hz')), AutoSeq1.wpAny_loadPart' hl, AutoSeq1.wpAny_loadPart' hb; exact ⟨_, rfl, h⟩
def rExtendT (K : Frag) : V → List V → Hp → VK → Prop := fun x vs H Q => ∃ l b xs zs, x = .ref l ∧ vs = [.ref b] ∧ H l = some (.lst xs) ∧ SqT K H b zs ∧ xs.length + zs.length ≤ sizeLine ∧ Q .non (upd H l (.lst (xs ++ zs)))
theorem mt_extendT {X : Cx} : MtR X "list.extend" (rExtendT X.K) := by
  intro pins s σ H x vs v us Q I rx rv h
  obtain ⟨l, b, xs, zs, rfl, rfl, hH, hB, hz, q⟩ := h
  cases rx
  obtain ⟨u, rfl, ru⟩ := rv.one
  cases ru
  obtain ⟨z, its, n, r, hl, e⟩ := I.lstM hH
  obtain ⟨its2, r2, ⟨o2, e2, hc2, n2, hd2⟩, z2⟩ := I.tuple hB
  obtain ⟨oc, od, odt, osl⟩ := o2
  simp only at hc2 hd2
  subst hc2; subst hd2
  have l1 := r.length
  have l2 := r2.length
  have hsz : its.toArray.size + its2.toArray.size ≤ sizeLine := by rw [List.size_toArray, List.size_toArray]; omega
  have hlong : ¬ (!its.toArray.isEmpty && Builtin.List.listTooLong (its.toArray.size + its2.toArray.size)) = true := by
    rw [notLongL hsz, Bool.and_false]
    exact Bool.false_ne_true
  refine call_meets F.slot_list_extend ⟨_, e, rfl⟩ F.entry_list_extend (F.args_list_extend_2 _ _)
    (extend_tupA l its.toArray n b od osl its2.toArray n2 hlong (by rw [List.size_toArray]; omega) (by omega)) ⟨e, e2, ?_⟩
  refine ⟨.non, _, I.lset (its' := its ++ its2) hH e (by simp) (r.append r2) ?_, rfl, q⟩
  rw [List.length_append]
  omega
/-- the sequence at b is put behind -/
structure ExtA (K : Frag) (H : Hp) (b : Addr) (n : Nat) (k : List V → Prop) : Prop where
  ex : ∃ zs, (H b = some (.lst zs) ∨ SqT K H b zs) ∧ n + zs.length ≤ sizeLine ∧ k zs
theorem ExtA.l {K : Frag} {H : Hp} {b : Addr} {n : Nat} {k : List V → Prop} {zs : List V} (h : H b = some (.lst zs)) (hz : n + zs.length ≤ sizeLine) (q : k zs) : ExtA K H b n k := ⟨zs, .inl h, hz, q⟩
theorem ExtA.t {K : Frag} {H : Hp} {b : Addr} {n : Nat} {k : List V → Prop} {zs : List V} (h : SqT K H b zs) (hz : n + zs.length ≤ sizeLine) (q : k zs) : ExtA K H b n k := ⟨zs, .inr h, hz, q⟩
def mExtA (K : Frag) : M2 := mL fun xs vs H k => match vs with
  | [.ref b] => ExtA K H b xs.length fun zs => k .non (xs ++ zs)
  | _ => False
theorem m_extA {X : Cx} : MtR X "list.extend" (mExtA X.K) := by
  intro pins s σ H x vs v us Q I rx rv q
  cases x <;> try exact q.elim
  match vs, q with
  | [.ref b], ⟨⟨xs, h, ⟨zs, h2, hz, q⟩⟩⟩ =>
    rcases h2 with h2 | h2
    · exact (MtR.of mt_extend fun _ _ _ _ q => q) pins s σ H _ _ v us Q I rx rv ⟨_, b, xs, zs, rfl, rfl, h, h2, hz, q⟩
    · exact mt_extendT pins s σ H _ _ v us Q I rx rv ⟨_, b, xs, zs, rfl, rfl, h, h2, hz, q⟩
/-! ### set(a list of numbers) -/
section
variable {P : Program} {w : World} {A : Around} {E : Value → Shared → Prop} {s : Shared}
/-- what the set holds after i items -/
def GotI (ns : List Int) (i : Nat) (S : Int → Bool) (n : Nat) : Prop := (∀ k, S k = true ↔ k ∈ ns.take i) ∧ n ≤ i
theorem gotI_succ {ns : List Int} {i : Nat} {S : Int → Bool} {n : Nat} {k : Int} (g : GotI ns i S n) (h : ns[i]? = some k) : GotI ns (i + 1) (fun j => S j || decide (j = k)) (if S k = true then n else n + 1) := by
  refine ⟨fun j => ?_, ?_⟩
  · rw [List.take_succ, h, List.mem_append, ← g.1 j, Bool.or_eq_true, decide_eq_true_eq]
    show _ ↔ _ ∨ j ∈ [k]
    rw [List.mem_singleton]
  · have := g.2
    split <;> omega
theorem set_update_ints {I : Addr} {fp wr : List Addr} {G : Array GenState → Array GenState → Prop} {n : Nat} {Pv : Nat → Value → Prop} {St : Nat → Shared → Prop} {R : Result → Shared → Prop}
    (W : WalksS P w A.in1 I fp wr G n Pv St) (S : Addr) (hSf : S ∉ fp) (ns : List Int) (hn : n = ns.length) (hfew : ns.length + 1 < scanBound) (hval : ∀ i v, Pv i v → ∃ k t, ns[i]? = some k ∧ v = .int k t)
    (h0 : Heap) (hS0 : h0.get? S = none) (hw0 : ∀ b ∈ wr, h0.get? b = none) :
    ∀ (k i : Nat) (s : Shared), n - i = k → i ≤ n → St i s → (∀ b o, h0.get? b = some o → s.heap.get? b = some o) → (∃ T m, SetR w s.heap S T m ∧ GotI ns i T m) →
      (∀ s' T m, Moved (S :: wr) G s s' → SetR w s'.heap S T m → GotI ns n T m → (∀ b o, h0.get? b = some o → s'.heap.get? b = some o) → R (.ok (.ret .none)) s') →
      codeAny (model P w) A (.builtin "set.update.loop" ⟨[.ref S, .ref I], []⟩) R s := by
  have hSw : S ∉ wr := fun h => hSf (W.sub _ h)
  have hsub : ∀ b ∈ wr, b ∈ S :: wr := fun b hb => List.mem_cons_of_mem _ hb
  have keepM : ∀ {s s' : Shared}, Moved wr G s s' → (∀ b o, h0.get? b = some o → s.heap.get? b = some o) → ∀ b o, h0.get? b = some o → s'.heap.get? b = some o := fun hm hkp b o e =>
    hm.heap b o (fun hb => by rw [hw0 b hb] at e; cases e) (hkp b o e)
  intro k
  induction k with
  | zero =>
    intro i s hk' hi hst hkp ⟨T, m, hS, g⟩ hR
    have hin : i = n := by omega
    subst hin
    refine codeAny_builtin F.entry_set_update_loop ?_
    rw [Around.under_plainId F.plain_set_update_loop _]
    show wpAny _ A.in1 (pyNext (.ref I) >>= _) _ _ s
    refine wpAny_bind (W.done s _ _ hst fun s' hm => ?_)
    show wpAny _ A.in1 (ret Value.none) _ _ s'
    have hkp' := keepM hm hkp
    exact wpAny_pure (hR s' T m (hm.mono hsub) (hS.at fun o e => hm.heap S o hSw e) g hkp')
  | succ k ih =>
    intro i s hk' hi hst hkp ⟨T, m, hS, g⟩ hR
    have hlt : i < n := by omega
    refine codeAny_builtin F.entry_set_update_loop ?_
    rw [Around.under_plainId F.plain_set_update_loop _]
    show wpAny _ A.in1 (pyNext (.ref I) >>= _) _ _ s
    refine wpAny_bind (W.item i s _ _ hlt hst fun v s' hP hst' hm => ?_)
    obtain ⟨x, t, hx, rfl⟩ := hval i v hP
    have hkp' := keepM hm hkp
    have hS' : SetR w s'.heap S T m := hS.at fun o e => hm.heap S o hSw e
    show wpAny _ A.in1 (holding [Value.int x t] (setAdd S (.int x t)) >>= _) _ _ s'
    refine wpAny_bind (wpAny_holding ?_)
    unfold setAdd
    refine wpAny_holding ?_
    refine wpAny_bind ((intKind P w).pyHash (k := x) (intKind_is _ _ _ _) ?_)
    refine setR_add_hashed (s := { s' with toks := s'.toks + 1 }) hS' (by have := g.2; omega) fun h' hsb hS2 => ?_
    have g' := gotI_succ g hx
    have hkp2 : ∀ b o, h0.get? b = some o → h'.get? b = some o := fun b o e => (hsb.2 b (fun z => by rw [z, hS0] at e; cases e)).trans (hkp' b o e)
    refine wpAny_pure ⟨plainId_quiet F.plain_set_update_loop _, ih (i + 1) _ (by omega) hlt (W.frame _ s' _ _ hst' (Nat.le_succ _) fun b hb o e => ?_) hkp2 ⟨_, _, hS2, g'⟩ fun s'' T2 m2 hm'' hS'' g'' hkp'' => ?_⟩
    · rw [hsb.2 b (fun h : b = S => hSf (by rw [← h]; exact hb))]; exact e
    · refine hR s'' T2 m2 (Moved.trans W.gtrans ((hm.mono hsub).then_heap (Nat.le_succ _) fun b o hb e => ?_) hm'') hS'' g'' hkp''
      rw [hsb.2 b (fun h : b = S => hb (by rw [h]; exact List.mem_cons_self))]; exact e
set_option maxHeartbeats 8000000 in
theorem call_set_ints {l : Addr} {items : Array Value} (ns : List Int) {Q : Value → Shared → Prop} (hh : A.handled = none) (hl : s.heap.IsList l items) (hit : IntsAre items.toList ns) (hfew : ns.length + 1 < scanBound)
    (h : ∀ (h' : Heap) (tk : Nat) T m, SetR w h' s.heap.objs.size T m → GotI ns ns.length T m → (∀ b o, s.heap.get? b = some o → h'.get? b = some o) → Q (.ref s.heap.objs.size) { s with heap := h', toks := tk }) :
    wpAny (model P w) A (call (.type "set") [.ref l]) Q E s := by
  have hisz : items.size = ns.length := by
    have q := IntsAre.length hit
    rw [Array.length_toList] at q
    exact q
  obtain ⟨c, tl, hmro⟩ := F.called_set.mro
  have hmade := F.called_set.made
  have hsub := F.called_set.sub
  refine wpAny_call (codeAny_of_tree ?_)
  show wpAny _ _ (callAny (.type "set") _) _ _ _
  refine wpAny_pure ⟨Code.quiet_builtin _ (by decide +kernel), codeAny_builtin F.entry_type_call ?_⟩
  rw [Around.under_plain (weight_type_call_type "set" [.ref l] []) rfl]
  have h1 := F.called_set.notType
  have h2 := F.called_set.canCreate
  have hct := F.typeCall_set_1 (.ref l)
  repeat (any_goals (first | assumption | wp_step))

  refine codeAny_mono (code_set_led1 (.ref l) (E := E) (Q₁ := fun obj s₁ => obj = .ref s.heap.objs.size ∧ s₁ = { s with heap := s.heap.push { cls := .type "set", dict := none, data := .set #[] 0 (.fresh 0 0 (!w.params.followText "set-order")) } }) ⟨rfl, rfl⟩) fun r s₁ hr => ?_
  cases r with
  | error e => exact hr
  | ok fl =>
    cases fl with
    | ret obj =>
      obtain ⟨rfl, rfl⟩ := hr
      have hS : (s.heap.push { cls := .type "set", dict := none, data := .set #[] 0 (.fresh 0 0 (!w.params.followText "set-order")) }).get? s.heap.objs.size = some { cls := .type "set", dict := none, data := .set #[] 0 (.fresh 0 0 (!w.params.followText "set-order")) } := Heap.get?_push_size _ rfl
      have hT : Shared.TypeIs { s with heap := s.heap.push { cls := .type "set", dict := none, data := .set #[] 0 (.fresh 0 0 (!w.params.followText "set-order")) } } (.ref s.heap.objs.size) "set" := ⟨_, hS, rfl⟩
      have hli := F.called_set.init.lookup
      have hbi := F.called_set.init.bind (.ref s.heap.objs.size)
      repeat (any_goals (first | assumption | wp_step))

      refine codeAny_mono (codeAny_call_builtin (R := wants (fun r s₂ => r = .none ∧ ∃ h' tk T m, s₂ = { s with heap := h', toks := tk } ∧ SetR w h' s.heap.objs.size T m ∧ GotI ns ns.length T m ∧
          (∀ b o, s.heap.get? b = some o → h'.get? b = some o)) E) F.called_set.init.plain F.entry_set_init (check_set_init_1 hT ?_)) fun r₂ s₂ hr₂ => ?_
      · obtain ⟨ol, hol, hcl, nl, hdl⟩ := hl
        obtain ⟨ocls, odict, odata, oslots⟩ := ol
        simp only at hcl hdl
        subst hcl; subst hdl
        have hol' : (s.heap.push { cls := .type "set", dict := none, data := .set #[] 0 (.fresh 0 0 (!w.params.followText "set-order")) }).get? l = some { cls := .type "list", dict := odict, data := .seq items nl, slots := oslots } := Heap.get?_push_of_some _ hol
        have hsls := F.sub_list_set
        have hslf := F.sub_list_frozenset
        have hne : (Value.type "list" == Value.type "dict") = false := by decide
        have hl1 : (s.heap.push { cls := .type "set", dict := none, data := .set #[] 0 (.fresh 0 0 (!w.params.followText "set-order")) }).IsList l items := ⟨_, hol', rfl, nl, rfl⟩
        unfold Builtin.«set.__init__» noKeywords Builtin.Frozenset.updateFrom
        generalize hPI : pyIter = PI
        wp_walk
        subst hPI

        refine wpAny_pyIter_list hl1 ?_
        refine wpAny_bind (wpAny_runValue ?_)
        have hlS : l < s.heap.objs.size := Heap.lt_size hol
        have hh3 : A.in1.in1.in1.handled = none := by simp [hh]
        have hneI : l ≠ (s.heap.push { cls := .type "set", dict := none, data := .set #[] 0 (.fresh 0 0 (!w.params.followText "set-order")) }).objs.size := by
          rw [Heap.size_push]; exact Nat.ne_of_lt (Nat.lt_succ_of_lt hlS)
        have hSf : s.heap.objs.size ∉ [(s.heap.push { cls := .type "set", dict := none, data := .set #[] 0 (.fresh 0 0 (!w.params.followText "set-order")) }).objs.size, l] := by
          rw [Heap.size_push]; simp only [List.mem_cons, List.mem_singleton, List.not_mem_nil, or_false, not_or]
          exact ⟨Nat.ne_of_lt (Nat.lt_succ_self _), Nat.ne_of_gt hlS⟩
        have hval : ∀ (i : Nat) (v : Value), items[i]? = some v → ∃ k t, ns[i]? = some k ∧ v = .int k t := fun i v hv => by
          have q : items.toList[i]? = some v := by rw [Array.getElem?_toList]; exact hv
          obtain ⟨k, t, e1, e2⟩ := IntsAre.at hit i v q
          exact ⟨k, t, e2, e1⟩
        have none_of : ∀ b, s.heap.objs.size ≤ b → s.heap.get? b = none := fun b hb => by
          cases q : s.heap.get? b with
          | none => rfl
          | some o => exact absurd (Nat.lt_of_lt_of_le (Heap.lt_size q) hb) (Nat.lt_irrefl _)
        refine set_update_ints ((Walks.list hh3 _ l hneI items).toS) s.heap.objs.size
          hSf ns hisz hfew hval s.heap (none_of _ (Nat.le_refl _)) (fun b hb => none_of b (by
            rw [List.mem_singleton.mp hb, Heap.size_push]
            exact Nat.le_succ _)) (items.size - 0) 0 _ (by omega) (Nat.zero_le _)
          ⟨⟨_, Heap.get?_push_size _ rfl, rfl, rfl⟩, (hl1.push _)⟩ (fun b o e => Heap.get?_push_of_some _ (Heap.get?_push_of_some _ e)) ?hS0 ?hR
        case hS0 =>
          exact ⟨_, 0, (setR_fresh (h := s.heap) w).at fun o e => Heap.get?_push_of_some _ e, fun k => by simp, Nat.le_refl _⟩
        case hR =>
          intro s' T m hm hS' g' hkp
          obtain ⟨h', g2, d', tk', os'⟩ := s'
          have eg : g2 = s.gens := hm.gens
          have ed : d' = s.drawn := hm.drawn
          have eo : os' = s.os := hm.os
          subst eg; subst ed; subst eo
          show wpAny _ _ _ _ _ _
          refine wpAny_pure ?_
          show wpAny _ _ (ret Value.none) _ _ _
          rw [hisz] at g'
          exact wpAny_pure ⟨rfl, h', tk', T, m, rfl, hS', g', hkp⟩

      · cases r₂ with
        | error e => exact hr₂
        | ok fl₂ =>
          cases fl₂ with
          | ret r =>
            obtain ⟨rfl, h', tk, T, m, rfl, hS', g', hk'⟩ := hr₂
            repeat (any_goals (first | assumption | wp_step))
            exact h _ _ _ _ hS' g' hk'
          | _ => exact hr₂.elim
    | _ => exact hr.elim
end
section
variable {X : Cx}
theorem nodup_len {α : Type} [DecidableEq α] : ∀ (L D : List α), L.Nodup → (∀ z ∈ L, z ∈ D) → L.length ≤ D.length
  | [], _, _, _ => Nat.zero_le _
  | x :: L, D, hn, hD => by
    have hx := hD x (List.mem_cons_self ..)
    obtain ⟨h1, h2⟩ := List.nodup_cons.mp hn
    have := nodup_len L (D.erase x) h2 fun z hz => (List.mem_erase_of_ne (fun e => h1 (by rw [← e]; exact hz))).mpr (hD z (List.mem_cons_of_mem _ hz))
    rw [List.length_erase_of_mem hx] at this
    have hp : 0 < D.length := List.length_pos_of_mem hx
    rw [List.length_cons]; omega
theorem setR_le {w : World} {h : Heap} {a : Addr} {T : Int → Bool} {m : Nat} (R : SetR w h a T m) {D : List Int} (hD : ∀ k, T k = true → k ∈ D) : m ≤ D.length := by
  obtain ⟨o, es, ep, t, _, _, _, _, nd, hm, _, _, hn, _⟩ := R
  have := nodup_len (es.toList.map keyOf) D nd fun z hz => hD z ((hm z).mpr hz)
  rw [List.length_map, Array.length_toList] at this
  omega
def rSetI (K : Frag) (w : World) : List V → Hp → VK → Prop := fun xs H Q => ∃ (l : Addr) (ns D : List Int), xs = [V.ref l] ∧ SqL K H l (ns.map V.int) ∧ ns.length + 1 < scanBound ∧ (∀ z ∈ ns, z ∈ D) ∧ ∀ a T m, H a = none → (∀ k, T k = true ↔ k ∈ ns) → m ≤ D.length → Q (.ref a) (upd H a (SetO w a T m))
theorem cr_setI (hc : X.calm = true) : CallR X (.type "set") (rSetI X.K X.w) := by
  intro pins s σ H xs us Q I r h
  obtain ⟨l, ns, D, rfl, hl, hf, hD, q⟩ := h
  rw [Vals.ref1 r]
  obtain ⟨its, rv, pl, hz⟩ := I.list hl
  refine call_set_ints (P := X.prog) (w := X.w) ns (I.ok.hd hc) pl.isList (by simpa using ints_of_vals rv) hf fun h' tk T m R g k => ?_
  have hT : ∀ k, T k = true ↔ k ∈ ns := fun k => by have := g.1 k; rwa [List.take_length] at this
  exact ⟨.ref s.heap.objs.size, upd H s.heap.objs.size (SetO X.w s.heap.objs.size T m), I.laid (t' := tk) k (Nat.le_refl _) (setO_new R), rfl, q _ T m (I.hok.fresh (Nat.le_refl _)) hT (setR_le R fun k hk => hD k ((hT k).mp hk))⟩
/-- sorted(set(xs)) of a list of numbers -/
structure SSet (K : Frag) (H : Hp) (p : Addr) (Q : V → Hp → Prop) : Prop where
  ex : ∃ ns D : List Int, SqL K H p (ns.map V.int) ∧ ns.length + 1 < scanBound ∧ D.length < 64 ∧ (∀ z ∈ ns, z ∈ D) ∧ ∀ (rs : List Int) (q : Addr) (H' : Hp), rs.Pairwise (· < ·) → (∀ k, k ∈ rs ↔ k ∈ ns) → Same H H' → H q = none → H' q = some (.lst (rs.map V.int)) → Q (.ref q) H'
def dSSet (K : Frag) (te : TE) : TE := fun σ H Q => te σ H fun x H1 => match x with
  | .ref p => SSet K H1 p Q
  | _ => False
/-- a reading closed under weaker wishes -/
def upE (te : TE) : TE := fun σ H Q => ∃ C : VK, te σ H C ∧ ∀ x H1, C x H1 → Q x H1
theorem pe_up {e : Expr} {te : TE} (he : PE X e te) : PE X e (upE te) := ⟨fun pins s σ H Q I h => by
  obtain ⟨C, h1, h2⟩ := h
  exact thn (he.run pins s σ H C I h1) fun v s1 ⟨x, H1, I1, r1, q1⟩ => ⟨x, H1, I1, r1, h2 x H1 q1⟩⟩
theorem pe_sset {e : Expr} {te : TE} {p1 p2 pos1 pos2 : Pos} (hc : X.calm = true) (h1 : X.mg "sorted" = none) (h2 : X.mg "set" = none) (b1 : bootBuiltins "sorted" = some (.builtin "sorted")) (b2 : bootBuiltins "set" = some (.type "set")) (he : PE X e te) (g1 : Gl X "sorted" := by rfl) (g2 : Gl X "set" := by rfl)
    (hs : starEach [.Call (.Name "set" p2) [e] [] pos2] X.env = (false, eval (.Call (.Name "set" p2) [e] [] pos2) X.env) :: starEach [] X.env := by rfl) (hs2 : starEach [e] X.env = (false, eval e X.env) :: starEach [] X.env := by rfl) :
    PE X (.Call (.Name "sorted" p1) [.Call (.Name "set" p2) [e] [] pos2] [] pos1) (dSSet X.K te) := by
  have hi : PE X (.Call (.Name "set" p2) [e] [] pos2) (tCB (rSetI X.K X.w) (tCons (upE te) tNil)) := pe_ct (cr_setI hc) h2 b2 (pa_cons (pe_up he) pa_nil (hs := hs2)) g2 (by decide) (by decide) hs2 rfl
  have ho : PE X (.Call (.Name "sorted" p1) [.Call (.Name "set" p2) [e] [] pos2] [] pos1) (tCB (rSortedSet X.w) (tCons (tCB (rSetI X.K X.w) (tCons (upE te) tNil)) tNil)) := pe_cb (cr_sortedSet hc) h1 b1 (pa_cons hi pa_nil (hs := hs)) g1 (by decide) (by decide) hs rfl
  refine PE.of ho fun σ H Q q => ?_
  refine ⟨_, q, fun x H1 q1 => ?_⟩
  cases x <;> try exact q1.elim
  obtain ⟨ns, D, hl, hf, hD, hsub, q2⟩ := q1.ex
  refine ⟨_, ns, D, rfl, hl, hf, hsub, fun a T m na hT hm => ?_⟩
  refine ⟨a, T, m, rfl, upd_same, by omega, fun rs p hp hmem _ np => ?_⟩
  have e1 := same_new (o := SetO X.w a T m) na
  refine q2 rs p _ hp (fun k => (hmem k).trans (hT k)) (e1.trans (same_new np)) ?_ upd_same
  cases e : H1 p with
  | none => rfl
  | some o => rw [e1 _ _ e] at np; cases np
end
end S
namespace S
open PySem PySem.Spec PyProof.Rows L2
def dTestO (K : Frag) (c : Str) (sp : Sp) (E : XK) (ta : TE) : TT := fun σ H Q => ta σ H fun x H1 => match x with
  | .ref p => IsO K H1 c p (sp [.ref p] H1 (isB Q) E)
  | x => dTru K x H1 fun b => Q b H1
theorem pt_ofO {X : Cx} {a : Expr} {ta : TE} {c : Str} {g : Addr} {k : Nat} {sp : Sp} {E : XK} (hm : Meth X.K (He.ga X.K c) "__bool__" g) (F : FnR X.prog X.w X.K X.mg X.base (L2.CX X.prog X.w) k g sp) (hr : Room k X.A) (hx : ∀ σ, PassesAt (L2.CX X.prog X.w) X σ E)
    (ha : PE X a ta) (he : ∀ whole, isTrue a X.env whole = (do let v ← whole; standAt a.pos; holding [v] (truthy v)) := by intro _; rfl) : PT X a (dTestO X.K c sp E ta) := by
  refine ⟨fun pins s σ H Q I h => ?_⟩
  refine isTrue_plain (thn (ha.run pins s σ H _ I h) fun v s1 ⟨x, H1, I1, r1, q1⟩ => ?_) (he _)
  cases x with
  | bl b =>
    exact tru_ok pins s1 σ H1 (.bl b) v Q I1 r1 ⟨b, rfl, q1⟩
  | non =>
    exact tru_ok pins s1 σ H1 .non v Q I1 r1 ⟨false, rfl, q1⟩
  | int i =>
    refine tru_ok pins s1 σ H1 (.int i) v Q I1 r1 ⟨_, rfl, ?_⟩
    have e : (i != 0) = decide (i ≠ 0) := by by_cases h : i = 0 <;> simp [h]
    rw [e]; exact q1
  | str z =>
    refine tru_ok pins s1 σ H1 (.str z) v Q I1 r1 ⟨_, ⟨q1.c, rfl⟩, ?_⟩
    have e : ((z.length : Int) != 0) = decide (z.length ≠ 0) := by by_cases h : z.length = 0 <;> simp [h]
    rw [e]; exact q1.q
  | ref p =>
    obtain ⟨⟨dx, vs, hsl⟩, q⟩ := q1
    cases r1
    obtain ⟨sl, od, _, J, _⟩ := SlX.slt_inst I1 hsl
    obtain ⟨m, hF⟩ := I1.fr
    refine PySem.W.truthy_K hF I1.ok.mod.kin J hm.at_ hm.fn (wpAny_mono (run_op (us := [.ref p]) (vs := [.ref p]) F hr I1.env0 hx I1 (.cons rfl .nil) q) (fun w s' z => ?_) fun _ _ x => x)
    obtain ⟨z', H', I', rz, qz⟩ := z
    obtain ⟨b, e, qz⟩ := isB_ex qz
    subst e
    cases rz
    exact ⟨H', I', qz⟩
  | _ => exact q1.elim
end S
namespace S
open PySem PySem.Spec PyProof.Rows L2
section
variable {X : Cx} {k n : Nat} {f : Addr} {sp : SpG} {x : Str} {p pos : Pos} {e : Expr} {es : List Expr} {t tk : TA} {gV : List V → List V → List V} {ks : List Str} {kws : List Keyword}
theorem run_gfk {pins : List (Addr × Obj)} {σ : L2.St} {H : Hp} {s : Shared} {us ws : List Value} {vs zs : List V} {cont : List V → Hp → Prop} {E : XK} {E1 : Value → Shared → Prop} (F : GFK X.prog X.w X.K X.mg X.base k f n ks sp gV) (hr : Room k X.A)
    (I : Inv X pins σ H s) (r : Vals vs us) (rz : Vals zs ws) (l1 : vs.length = n) (l2 : zs.length = ks.length) (h : sp (gV vs zs) H cont E) :
    wpAny (model X.prog X.w) X.A (call (.ref f) us (ks.zip ws)) (fun u s' => ∃ H1 sc ex, Inv X pins σ H1 sc ∧ ExOk X pins ex ∧ GMade X.prog X.w k X.stack H1 sc ex cont E u s') E1 s := by
  obtain ⟨fd, ps, gg, F, hb⟩ := F.ex
  have r2 := hb.rel r rz
  refine wpAny_call (codeAny_mono (F.run X.A X.stack s H ⟨us, ks.zip ws⟩ (gg us ws) (gV vs zs) cont E hr I.env0 (hb.to s us ws I.kIn (r.length.symm.trans l1) (rz.length.symm.trans l2)) r2 h) fun r s' hq => ?_)
  cases r with
  | error e => exact False.elim hq
  | ok fl =>
    cases fl with
    | ret u => exact ⟨H, s, [], I, .nil, hq⟩
    | next => exact False.elim hq
    | brk => exact False.elim hq
    | cont => exact False.elim hq
/-- f(e, .., k = v, ..) -/
def tCallGK (n m : Nat) (sp : SpG) (gV : List V → List V → List V) (t tk : TA) : TGenE := fun E σ H cont => t σ H fun vs H1 => tk σ H1 fun zs H2 => vs.length = n ∧ zs.length = m ∧ sp (gV vs zs) H2 cont E
theorem pgen_callK (F : GFK X.prog X.w X.K X.mg X.base k f n ks sp gV) (hr : Room k X.A) (hm : X.mg x = some (.ref f)) (hk : PySem.W.keepIn X.K (.ref f) = true)
    (ha : PA X (e :: es) t) (hkw : PK X kws tk) (hg : Gl X x := by rfl) (hall : (backToKw pos (keywordEach kws X.env)).all (·.1.isSome) = true := by rfl) (hks : (backToKw pos (keywordEach kws X.env)).filterMap (·.1) = ks := by rfl)
    (hdb : (x == ("__debug__" : Str)) = false := by decide) (he : starEach (e :: es) X.env = (false, eval e X.env) :: starEach es X.env := by rfl)
    (hpl : ((backTo pos (starEach (e :: es) X.env)).any (·.1) || (backToKw pos (keywordEach kws X.env)).any (·.1.isNone)) = false := by rfl) :
    PGenE X k (.Call (.Name x p) (e :: es) kws pos) (tCallGK n ks.length sp gV t tk) := by
  refine ⟨fun E => ⟨fun pins s σ H cont I h => ?_⟩⟩
  refine wpAny_Call_Name_kw (ld_glob I hg hm ?_ hdb)
  refine PySem.W.callWith_KW (h₀ := X.base) I.ok.mod.kin hk hall (thn (ha.run pos pins s σ H _ I h) fun us s1 ⟨vs, H1, I1, r, q⟩ => ?_) hpl he
  refine thn (hkw.run pos pins s1 σ H1 _ I1 q) fun ws s2 ⟨zs, H2, I2, rz, l1, l2, q2⟩ => ⟨I2.kIn, ?_⟩
  rw [hks]
  exact run_gfk F hr I2 r rz l1 l2 q2
end
end S
namespace S
open PySem PySem.Spec PyProof.Rows L2 GenW
/-! ### a heap's beginning as the ground of a run -/
def cut0 (h : Heap) (n : Nat) : Heap := { h with objs := h.objs.extract 0 n }
theorem cut0_ix {h : Heap} {n b : Nat} : (cut0 h n).objs[b]? = if b < n then h.objs[b]? else none := by
  unfold cut0
  simp only [Array.getElem?_extract]
  by_cases hb : b < n
  · rw [if_pos hb]
    by_cases h2 : b < h.objs.size
    · rw [if_pos (by omega), Nat.zero_add]
    · rw [if_neg (by omega)]
      exact (Array.getElem?_eq_none (by omega)).symm
  · rw [if_neg hb, if_neg (by omega)]
theorem cut0_get {h : Heap} {n b : Nat} {o : Obj} (e : (cut0 h n).get? b = some o) : b < n ∧ h.get? b = some o := by
  have ix := cut0_ix (h := h) (n := n) (b := b)
  unfold Heap.get? at e ⊢
  rw [ix] at e
  by_cases hb : b < n
  · rw [if_pos hb] at e
    exact ⟨hb, e⟩
  · rw [if_neg hb] at e
    cases e
theorem cut0_at {h : Heap} {n b : Nat} {o : Obj} (hb : b < n) (e : h.get? b = some o) : (cut0 h n).get? b = some o := by
  have ix := cut0_ix (h := h) (n := n) (b := b)
  unfold Heap.get? at e ⊢
  rw [ix, if_pos hb]
  exact e
theorem cut0_size {h : Heap} {n : Nat} : (cut0 h n).objs.size = min n h.objs.size := by
  unfold cut0
  simp
theorem cut0_funs {h base : Heap} {n : Nat} : ∀ {l : List Env}, h.FunFrames base l → (∀ b ∈ frs l, b < n) → (cut0 h n).FunFrames base l
  | [], _, _ => trivial
  | env :: rest, ⟨hk, ⟨L, o, e1, e2, e3, e4⟩, hr⟩, hb => by
    refine ⟨hk, ⟨L, o, e1, e2, cut0_at (hb L ?_) e3, e4⟩, cut0_funs hr fun b q => hb b ?_⟩
    · unfold frs
      rw [List.filterMap_cons, e1]
      exact List.mem_cons_self
    · unfold frs at q ⊢
      rw [List.filterMap_cons, e1]
      exact List.mem_cons_of_mem _ q
/-- the context over another ground -/
def rebC (X : Cx) (b : Shared × Hp) : Cx := { X with s_0 := { b.1 with heap := cut0 b.1.heap X.s_0.heap.objs.size }, H_0 := b.2 }
/-- the untracked objects stay -/
theorem un_cut {fs ex : List Addr} {H : Hp} {h : Heap} {n : Nat} : Un fs ex H H (cut0 h n) h where
  keep := fun _ _ e _ _ _ => (cut0_get e).2
  slot := fun _ o e _ _ _ => ⟨o.slots, (cut0_get e).2⟩
  free := fun _ _ _ q _ => q
  there := fun _ o e _ => ⟨o, (cut0_get e).2⟩
  tups := fun _ _ q => q
  frzs := fun _ _ _ q => q
  tbls := fun _ ps q => ⟨#[], by rw [q]; simp⟩
/-- what is known of a state in which a sleeping generator is woken -/
structure Wok (X : Cx) (gp : List (Addr × Obj)) (s : Shared) (H : Hp) : Prop where
  bare : AllBare s.gens
  bs : ∀ b o, X.base.get? b = some o → s.heap.get? b = some o ∧ H b = none
  bsz : X.base.objs.size ≤ s.heap.objs.size
  funs : s.heap.FunFrames X.base X.outer
  frf : ∀ b ∈ X.fs, H b = none
  hok : HOk X.prog X.w H s.heap
  gp : ∀ p ∈ gp, s.heap.get? p.1 = some p.2 ∧ H p.1 = none
section
variable {X : Cx} {pins : List (Addr × Obj)} {σ : L2.St} {H H' : Hp} {s s' : Shared} {b : Shared × Hp} {oL : Obj}
/-- over the ground where it stands -/
theorem inv_reb (I : Inv X pins σ H s) : Inv (rebC X (s, H)) pins σ H s := by
  have fr : ∀ q ∈ X.fs, q < X.s_0.heap.objs.size := fun q hq => by
    obtain ⟨_, o, ho, _⟩ := I.ok.funs.mem hq
    exact Heap.lt_size ho
  have hfs : ∀ q ∈ X.fs, H q = none := fun q hq => by
    obtain ⟨_, o, ho, _⟩ := I.ok.funs.mem hq
    exact I.base.free q o ho (I.ok.frf q hq) fun z => I.ok.exfs q z hq
  have sz : (cut0 s.heap X.s_0.heap.objs.size).objs.size = X.s_0.heap.objs.size := by
    rw [cut0_size]
    exact Nat.min_eq_left I.sz
  refine ⟨⟨I.ok.mod, I.ok.kind, I.ok.glob, I.ok.blt, ?_, I.ok.inj, I.ok.has, fun x c h1 h2 => ?_, I.ok.hd, I.ok.frames, I.ok.stk, I.ok.exf, fun q o e => ?_, ?_, I.ok.noex, I.ok.exfs, cut0_funs I.funs fr, hfs⟩, rfl, I.bare, un_cut, I.loc, I.cell, I.free, I.freeC, I.pin, I.hok, I.len⟩
  · show (cut0 s.heap _).objs.size ≤ _
    rw [sz]; exact I.ok.above
  · show (cut0 s.heap _).objs.size ≤ _
    rw [sz]; exact I.ok.cab x c h1 h2
  · obtain ⟨e1, e2⟩ := I.bs q o e
    exact ⟨cut0_at (Nat.lt_of_lt_of_le (Heap.lt_size e) I.ok.bsz) e1, e2⟩
  · show _ ≤ (cut0 s.heap _).objs.size
    rw [sz]; exact I.ok.bsz
/-- woken: what is its own stands as it stood -/
theorem inv_wake (I : Inv (rebC X b) pins σ H s) (hnl : X.s_0.heap.objs.size ≤ X.env.locals) (hbz : X.base.objs.size ≤ X.s_0.heap.objs.size) (hfr : ∀ q ∈ X.fs, q < X.s_0.heap.objs.size) (hc : ∀ x, X.env.cells.lookup x = none) (hL : s.heap.get? X.env.locals = some oL)
    (w : Wok X ((X.env.locals, oL) :: (X.pn ++ pins)) s' H') : Inv (rebC X (s', H')) pins σ H' s' := by
  obtain ⟨w1, w2⟩ := w.gp (X.env.locals, oL) List.mem_cons_self
  have lt : X.env.locals < s'.heap.objs.size := Heap.lt_size w1
  have sz : (cut0 s'.heap X.s_0.heap.objs.size).objs.size = X.s_0.heap.objs.size := by
    rw [cut0_size]
    exact Nat.min_eq_left (Nat.le_trans hnl (Nat.le_of_lt lt))
  refine ⟨⟨I.ok.mod, I.ok.kind, I.ok.glob, I.ok.blt, ?_, I.ok.inj, I.ok.has, fun x c _ h2 => ?_, I.ok.hd, I.ok.frames, I.ok.stk, I.ok.exf, fun q o e => ?_, ?_, I.ok.noex, I.ok.exfs, cut0_funs w.funs hfr, w.frf⟩, rfl, w.bare, un_cut, ?_, fun x c h => ?_, w2, fun x c h => ?_, fun p hp => ?_, w.hok, I.len⟩
  · show (cut0 s'.heap _).objs.size ≤ _
    rw [sz]; exact hnl
  · have h2 : X.env.cells.lookup x = some c := h2
    rw [hc x] at h2; cases h2
  · obtain ⟨e1, e2⟩ := w.bs q o e
    exact ⟨cut0_at (Nat.lt_of_lt_of_le (Heap.lt_size e) hbz) e1, e2⟩
  · show _ ≤ (cut0 s'.heap _).objs.size
    rw [sz]; exact hbz
  · obtain ⟨m, hn, hl⟩ := I.loc
    obtain ⟨o, es, ep, ho, hr⟩ := hn
    have ho' : s.heap.get? X.env.locals = some o := ho
    rw [hL] at ho'
    cases ho'
    refine ⟨m, ⟨oL, es, ep, w1, hr⟩, fun i x v h1 h2 h3 => ?_⟩
    obtain ⟨u, r, l⟩ := hl i x v h1 h2 h3
    refine ⟨u, r, l.imp (fun z => z) fun z => ?_⟩
    obtain ⟨_, c, e, _⟩ := z
    have e : X.env.cells.lookup x = some c := e
    rw [hc x] at e; cases e
  · have h : X.env.cells.lookup x = some c := h
    rw [hc x] at h; cases h
  · have h : X.env.cells.lookup x = some c := h
    rw [hc x] at h; cases h
  · obtain ⟨_, _, k3, k4, k5⟩ := I.pin p hp
    obtain ⟨g1, g2⟩ := w.gp p (List.mem_cons_of_mem _ hp)
    exact ⟨g1, g2, k3, k4, k5⟩
end

/-! ### a generator's body whose yields are the consumer's turns -/
abbrev TurnK := List V → V → Hp → (Hp → Prop) → Prop
abbrev WakeZ := List V → Shared → Hp → Prop
/-- the state in which the generator was woken -/
structure Gnd (X : Cx) (Z : WakeZ) (ys : List V) (s : Shared) (H : Hp) : Prop where
  z : Z ys s H
  sz : X.s_0.heap.objs.size ≤ s.heap.objs.size
/-- what a generator's body may count on -/
structure Alone (X : Cx) : Prop where
  nox : ∀ e s, X.xe e s → False
  nl : X.s_0.heap.objs.size ≤ X.env.locals
  bz : X.base.objs.size ≤ X.s_0.heap.objs.size
  fr : ∀ q ∈ X.fs, q < X.s_0.heap.objs.size
  nc : ∀ x, X.env.cells.lookup x = none
def GYf (X : Cx) (Z : WakeZ) (Kc : TurnK) : Protocol := fun n s₀ v s kap =>
  ∃ ys x ip σ H0 H oL post, n + 1 + ys.length = sizeLine ∧ RelV x v ∧ Gnd X Z ys s₀ H0 ∧ Inv (rebC X (s₀, H0)) ip σ H s ∧ s.heap.get? X.env.locals = some oL ∧ Kc ys x H post ∧
    ∀ s' H', Wok X ((X.env.locals, oL) :: (X.pn ++ ip)) s' H' → Z (ys ++ [x]) s' H' → post H' → kap (.send .none) s'
def GRf (X : Cx) (Z : WakeZ) (Q : List V → VK) : GenEnd := fun n s₀ r s => match r with
  | .ok (.ret u) => ∃ ys v ip σ H0 H, n + ys.length = sizeLine ∧ Gnd X Z ys s₀ H0 ∧ Inv (rebC X (s₀, H0)) ip σ H s ∧ RelV v u ∧ Q ys v H
  | _ => False
def GPf (X : Cx) (Z : WakeZ) (ip : List (Addr × Obj)) (D : GEnds) (ys : List V) (s₀ : Shared) (f : Flow) (s : Shared) : Prop := ∃ H0, Gnd X Z ys s₀ H0 ∧ SP (rebC X (s₀, H0)) ip (D.at ys) f s
structure GCf (X : Cx) (A : Around) (c : Code) (fs : List Frame) (gd : Bool → Bool) : Prop where
  over : A.over c fs = X.A
  split : splitAtGen fs = none
  guard : fs.any Frame.guarded = false
  gd : gd false = false
def GKf (X : Cx) (Z : WakeZ) (Kc : TurnK) (ip : List (Addr × Obj)) (A : Around) (R : GenEnd) (c : Code) (fs : List Frame) (K : Flow → Sem PySem.Fin) (D : GEnds) : Prop :=
  ∀ (n : Nat) (ys : List V) (s₀ s : Shared) (f : Flow), n + ys.length = sizeLine → GPf X Z ip D ys s₀ f s → Seg (model X.prog X.w) A R (GYf X Z Kc) n s₀ c (K f) fs s
def GRun (X : Cx) (Z : WakeZ) (Kc : TurnK) (m : Sem Flow) (t : TGn) : Prop :=
  ∀ (A : Around) (ip : List (Addr × Obj)) (R : GenEnd) (n : Nat) (ys : List V) (s₀ : Shared) (H0 : Hp) (c : Code) (fs : List Frame) (K : Flow → Sem PySem.Fin) (J : Value → Sem PySem.Fin) (gd : Bool → Bool) (lv : List Value → List Value) (s : Shared) (σ : L2.St) (H : Hp) (D : GEnds),
    GCf X A c fs gd → n + ys.length = sizeLine → Gnd X Z ys s₀ H0 → GKf X Z Kc ip A R c fs K D → Inv (rebC X (s₀, H0)) ip σ H s → t D ys σ H → Seg (model X.prog X.w) A R (GYf X Z Kc) n s₀ c (m.wrap K J gd lv) fs s
structure GSf (X : Cx) (Z : WakeZ) (Kc : TurnK) (st : Stmt) (t : TGn) : Prop where
  run : GRun X Z Kc (exec st X.env) t
structure GSsf (X : Cx) (Z : WakeZ) (Kc : TurnK) (st : List Stmt) (t : TGn) : Prop where
  run : GRun X Z Kc (execs st X.env) t
section
variable {X : Cx} {Z : WakeZ} {Kc : TurnK} {st : Stmt} {rest : List Stmt}
theorem gsf_ps {t : TS} (al : Alone X) (h : ∀ b, PS (rebC X b) st t) : GSf X Z Kc st (tPlain t) := by
  refine ⟨fun A ip R n ys s₀ H0 c fs K J gd lv s σ H D g hn hz k I ht => ?_⟩
  refine seg_wrap ?_
  rw [g.over]
  exact wpAny_mono ((h (s₀, H0)).run ip s σ H (D.at ys) I ht) (fun f s' hs => k n ys s₀ s' f hn ⟨H0, hz, hs⟩) fun x s' hx => (al.nox x s' hx).elim
theorem gssf_nil : GSsf X Z Kc [] tG0 := by
  refine ⟨fun A ip R n ys s₀ H0 c fs K J gd lv s σ H D g hn hz k I ht => ?_⟩
  exact seg_execs_nil (k n ys s₀ s .next hn ⟨H0, hz, σ, H, I, ht⟩)
theorem gssf_cons {t u : TGn} (a : GSf X Z Kc st t) (b : GSsf X Z Kc rest u) : GSsf X Z Kc (st :: rest) (tGThen t u) := by
  refine ⟨fun A ip R n ys s₀ H0 c fs K J gd lv s σ H D g hn hz k I ht => ?_⟩
  refine seg_execs_cons (a.run A ip R n ys s₀ H0 c fs _ J gd lv s σ H { D with nx := fun ys' σ' H' => u D ys' σ' H' } g hn hz (fun n' ys' s₀' s' f hn' hs => ?_) I ht)
  cases f with
  | next =>
    obtain ⟨H0', hz', σ', H', I', q⟩ := hs
    exact b.run A ip R n' ys' s₀' H0' c fs K J gd lv s' σ' H' D g hn' hz' k I' q
  | brk => exact k n' ys' s₀' s' .brk hn' hs
  | cont => exact k n' ys' s₀' s' .cont hn' hs
  | ret u => exact k n' ys' s₀' s' (.ret u) hn' hs
theorem gssf_one {t : TGn} (h : GSf X Z Kc st t) : GSsf X Z Kc [st] t := by
  have h2 := gssf_cons h (gssf_nil (X := X) (Z := Z) (Kc := Kc))
  exact ⟨fun A ip R n ys s₀ H0 c fs K J gd lv s σ H D g hn hz k I ht => h2.run A ip R n ys s₀ H0 c fs K J gd lv s σ H D g hn hz k I ht⟩
theorem gssf_stop {t : TGn} (h : GSsf X Z Kc rest t) : GSsf X Z Kc rest (gstop t) := ⟨fun A ip R n ys s₀ H0 c fs K J gd lv s σ H D g hn hz k I ht => h.run A ip R n ys s₀ H0 c fs K J gd lv s σ H D g hn hz k I ht.go⟩
theorem gsf_if {test : Expr} {body orelse : List Stmt} {pos : Pos} {c : TT} {t u : TGn} (al : Alone X) (hc : ∀ b, PT (rebC X b) test c) (ha : GSsf X Z Kc body t) (hb : GSsf X Z Kc orelse u) : GSf X Z Kc (.If test body orelse pos) (tGIf c t u) := by
  refine ⟨fun A ip R n ys s₀ H0 cd fs K J gd lv s σ H D g hn hz k I ht => ?_⟩
  show Seg _ _ _ _ _ _ _ ((do standAt pos; if ← isTrue test X.env (eval test X.env) then execs body X.env else execs orelse X.env : Sem Flow).wrap K J gd lv) _ _
  refine seg_bind_wrap (wpAny_standAt (seg_bind_wrap ?_))
  rw [g.over]
  refine wpAny_mono ((hc (s₀, H0)).run ip s σ H _ I ht) (fun b s' hb' => ?_) fun x s' hx => (al.nox x s' hx).elim
  obtain ⟨H2, I2, q2⟩ := hb'
  cases b with
  | true =>
    rw [if_pos rfl]
    exact ha.run A ip R n ys s₀ H0 cd fs K J gd lv s' σ H2 D g hn hz k I2 q2
  | false =>
    rw [if_neg Bool.false_ne_true]
    exact hb.run A ip R n ys s₀ H0 cd fs K J gd lv s' σ H2 D g hn hz k I2 q2
/-- yield e: the consumer's turn -/
def tFYield (Kc : TurnK) (te : TE) : TGn := fun D ys σ H => Need (ys.length < sizeLine) (te σ H fun x H1 => Kc ys x H1 fun H' => D.nx (ys ++ [x]) σ H')
theorem gsf_yield {e : Expr} {te : TE} {yp pos : Pos} (al : Alone X) (he : ∀ b, PE (rebC X b) e te) (hco : X.env.scope.isCoroutine = false := by rfl) (hi : interactive X.env = false := by rfl) : GSf X Z Kc (.Expr (.Yield (some e) yp) pos) (tFYield Kc te) := by
  refine ⟨fun A ip R n ys s₀ H0 c fs K J gd lv s σ H D g hn hz k I ht => ?_⟩
  obtain ⟨hlt, ht⟩ := ht
  obtain ⟨n, rfl⟩ : ∃ m, n = m + 1 := ⟨n - 1, by omega⟩
  refine seg_Expr_Yield g.split g.gd g.guard ?_ hco hi
  rw [g.over]
  refine wpAny_mono ((he (s₀, H0)).run ip s σ H _ I ht) (fun v s' hv => ?_) fun x s' hx => (al.nox x s' hx).elim
  obtain ⟨x, H1, I1, rv, q⟩ := hv
  intro kap hk
  obtain ⟨m, ⟨oL, es, ep, hL, hr⟩, _⟩ := id I1.loc
  have hL : s'.heap.get? X.env.locals = some oL := hL
  refine ⟨ys, x, ip, σ, H0, H1, oL, _, hn, rv, hz, I1, hL, q, fun s2 H2 w z p => hk .none s2 ?_⟩
  have lt : X.env.locals < s2.heap.objs.size := Heap.lt_size (w.gp (X.env.locals, oL) List.mem_cons_self).1
  refine k n (ys ++ [x]) s2 s2 .next ?_ ⟨H2, ⟨z, Nat.le_trans al.nl (Nat.le_of_lt lt)⟩, σ, H2, inv_wake I1 al.nl al.bz al.fr al.nc hL w, p⟩
  rw [List.length_append, List.length_singleton]; omega
theorem gcf_loop {A : Around} {c c' : Code} {fs : List Frame} {gd : Bool → Bool} {k : Result → Sem PySem.Fin} {l kp : List Value} {p : Pos} (g : GCf X A c fs gd) (hw : c'.weight = 0) (hu : c'.cUnits = 0) :
    GCf X A c' (.ret k none (gd false) l c p kp :: fs) id := by
  refine ⟨(over_loop hw hu).trans g.over, ?_, ?_, rfl⟩
  · show (splitAtGen fs).map _ = none
    rw [g.split] <;> rfl
  · show (gd false || fs.any Frame.guarded) = false
    rw [g.gd, g.guard] <;> rfl
theorem fpOk_reb {b b' : Shared × Hp} {ip : List (Addr × Obj)} {H H' : Hp} {q : Addr} (h : FpOk (rebC X b) ip H q) (hz : X.s_0.heap.objs.size ≤ b.1.heap.objs.size) (hn : H' q = none) : FpOk (rebC X b') ip H' q := by
  obtain ⟨_, h2, h3, h4, h5, h6⟩ := h
  refine ⟨hn, h2, h3, h4.imp (fun z => z) fun z => ?_, h5, h6⟩
  have z : (cut0 b.1.heap X.s_0.heap.objs.size).objs.size ≤ q := z
  show (cut0 b'.1.heap X.s_0.heap.objs.size).objs.size ≤ q
  rw [cut0_size] at z ⊢
  have z2 := Nat.min_eq_left hz
  rw [z2] at z
  exact Nat.le_trans (Nat.min_le_left _ _) z
theorem gsf_for {tg iter : Expr} {body : List Stmt} {wi : TI} {g : TG} {tb : TGn} {pos : Pos} (al : Alone X) (hc : X.calm = true) (hi : ∀ b, PI (rebC X b) tg iter wi) (hg : ∀ b, PG (rebC X b) tg g) (hb : GSsf X Z Kc body tb)
    (hs : ∀ x, foldedSetIterable iter X.env x = pure x := by intro _; rfl) : GSf X Z Kc (.For tg iter body [] pos) (dGFor wi g tb) := by
  refine ⟨fun A ip R n ys s₀ H0 c fs K J gd lv s σ H D gc hn hz k I ht => ?_⟩
  rw [exec_For]
  refine seg_bind_wrap (wpAny_standAt (seg_bind_wrap ?_))
  rw [gc.over]
  refine wpAny_mono ((hi (s₀, H0)).run ip s σ H _ I ht) (fun v s1 h1 => ?_) fun x s' hx => (al.nox x s' hx).elim
  refine seg_bind_wrap (wpAny_of_eq (hs v) (seg_bind_wrap (wpAny_standAt (seg_bind_wrap (wpAny_holding ?_)))))
  rw [gc.over]
  refine wpAny_mono h1 (fun itv s2 h2 => ?_) fun x s' hx => (al.nox x s' hx).elim
  obtain ⟨it, fp, tn, It, H2, e, I2, T, st2, f2, W, ⟨m0, w0⟩, turn⟩ := h2
  subst e
  refine seg_call fun p => ?_
  have gl := fun (kk : Result → Sem PySem.Fin) => gcf_loop (k := kk) (c' := .forLoop tg (.ref it) body [] X.env) (l := lv []) (kp := []) (p := p) gc rfl rfl
  have stat : ∀ {b' : Shared × Hp} {H' : Hp}, (∀ b ∈ fp, H' b = none) → ∀ b ∈ fp, FpOk (rebC X b') ip H' b := fun hn b hb => fpOk_reb (f2 b hb) hz.sz (hn b hb)
  have loop : ∀ (m i n : Nat) (ys : List V) (s₀ : Shared) (H0 : Hp) (s : Shared) (σ : L2.St) (H : Hp), n + ys.length = sizeLine → Gnd X Z ys s₀ H0 → W i m ys σ H → Inv (rebC X (s₀, H0)) ip σ H s → tn i s.heap → (∀ b ∈ fp, H b = none) →
      Seg (model X.prog X.w) A R (GYf X Z Kc) n s₀ (.forLoop tg (.ref it) body [] X.env) ((model X.prog X.w).den (.forLoop tg (.ref it) body [] X.env))
        (.ret (fun r => ((match r with | .ok f => (.pure f : Sem Flow) | .error e => .raise e).onRaise (cameBack X.env)).wrap K J gd lv) none (gd false) (lv []) c p [] :: fs) s := by
    intro m
    induction m using Nat.strongRecOn with
    | ind m ih =>
      intro i n ys s₀ H0 s σ H hn hz w I st fr
      refine seg_forLoop ?_
      rw [(gl _).over]
      rcases turn i m ys σ H w with ⟨stop, qn⟩ | ⟨go, N, hN, step⟩
      · refine wpAny_mono (T.done (rebC X (s₀, H0)) rfl rfl rfl hc i ip s σ H X.xe I (stat fr) st stop) (fun r s4 h4 => ?_) fun x s' hx => (al.nox x s' hx).elim
        obtain ⟨hr, I4⟩ := h4
        subst hr
        refine seg_block0 ?_
        exact seg_leaf (.ok .next) (k n ys s₀ s4 .next hn ⟨H0, hz, σ, H, I4, qn⟩)
      · refine wpAny_mono (T.item (rebC X (s₀, H0)) rfl rfl rfl hc i ip s σ H X.xe I (stat fr) st go) (fun r s4 h4 => ?_) fun x s' hx => (al.nox x s' hx).elim
        obtain ⟨u, hr, h4⟩ := h4
        subst hr
        refine wpAny_mono h4 (fun _ s5 h5 => ?_) fun x s' hx => (al.nox x s' hx).elim
        obtain ⟨x, H5, I5, r5, y5, st5, fr5⟩ := h5
        have I5' := I5.pinned (stat fr5) (T.obj _ _ st5)
        refine wpAny_mono ((hg (s₀, H0)).run _ s5 σ H5 x u _ I5' r5 (step x H5 y5)) (fun _ s6 h6 => ?_) fun x s' hx => (al.nox x s' hx).elim
        obtain ⟨σ6, H6, I6, q6⟩ := h6
        have again : ∀ {ys' : List V} {σ7 : L2.St} {H7 H0' : Hp} {s7 : Shared} {n' : Nat} {s₀' : Shared}, n' + ys'.length = sizeLine → Gnd X Z ys' s₀' H0' → Inv (rebC X (s₀', H0')) (ip ++ pinsAt fp s5.heap) σ7 H7 s7 → N ys' σ7 H7 →
            Seg (model X.prog X.w) A R (GYf X Z Kc) n' s₀' (.forLoop tg (.ref it) body [] X.env) (.pure (.again (.forLoop tg (.ref it) body [] X.env)))
            (.ret (fun r => ((match r with | .ok f => (.pure f : Sem Flow) | .error e => .raise e).onRaise (cameBack X.env)).wrap K J gd lv) none (gd false) (lv []) c p [] :: fs) s7 := by
          intro ys' σ7 H7 H0' s7 n' s₀' hn' hz' I7 n7
          obtain ⟨m', hm, w7⟩ := hN ys' σ7 H7 n7
          have pin : ∀ b ∈ fp, ∀ o, s5.heap.get? b = some o → s7.heap.get? b = some o ∧ H7 b = none := fun b hb o e => by
            have := I7.pin (b, o) (List.mem_append_right _ (List.mem_append_right _ (mem_pinsAt hb e)))
            exact ⟨this.1, this.2.1⟩
          refine seg_again rfl (ih m' hm (i + 1) n' ys' s₀' H0' s7 σ7 H7 hn' hz' w7 I7.unpinned (T.keep _ _ _ st5 fun b hb o e => (pin b hb o e).1) fun b hb => ?_)
          obtain ⟨o, e, d⟩ := T.obj _ _ st5 b hb
          exact (pin b hb o e).2
        refine hb.run A (ip ++ pinsAt fp s5.heap) R n ys s₀ H0 _ _ _ _ id id s6 σ6 H6 { D with nx := N, ct := N, bk := D.nx } (gl _) hn hz (fun n' ys' s₀' s7 f hn' hs => ?_) I6 q6
        obtain ⟨H0', hz', hs⟩ := hs
        cases f with
        | next =>
          obtain ⟨σ7, H7, I7, n7⟩ := hs
          exact again hn' hz' I7 n7
        | cont =>
          obtain ⟨σ7, H7, I7, n7⟩ := hs
          exact again hn' hz' I7 n7
        | brk =>
          obtain ⟨σ7, H7, I7, q7⟩ := hs
          exact seg_leaf (.ok .next) (k n' ys' s₀' s7 .next hn' ⟨H0', hz', σ7, H7, I7.unpinned, q7⟩)
        | ret v =>
          obtain ⟨y, σ7, H7, I7, r7, q7⟩ := hs
          exact seg_leaf (.ok (.ret v)) (k n' ys' s₀' s7 (.ret v) hn' ⟨H0', hz', y, σ7, H7, I7.unpinned, r7, q7⟩)
  exact loop m0 0 n ys s₀ H0 s2 σ H2 hn hz w0 I2 st2 fun b hb => (f2 b hb).1
end

/-! ### the call of such a def -/
abbrev SpF := List V → Hp → TurnK → (List V → Hp → Prop) → Prop
structure Wok0 (P : Program) (w : World) (base : Heap) (outer : List Env) (gp : List (Addr × Obj)) (s : Shared) (H : Hp) : Prop where
  bare : AllBare s.gens
  bs : ∀ b o, base.get? b = some o → s.heap.get? b = some o ∧ H b = none
  bsz : base.objs.size ≤ s.heap.objs.size
  funs : s.heap.FunFrames base outer
  frf : ∀ b ∈ frs outer, H b = none
  hok : HOk P w H s.heap
  gp : ∀ p ∈ gp, s.heap.get? p.1 = some p.2 ∧ H p.1 = none
/-- an item is handed out: n objects stood when the generator was made -/
def YItF (P : Program) (w : World) (base : Heap) (outer : List Env) (ng : Nat) (a : Addr) (g : Nat) (Z : WakeZ) (Kc : TurnK) : Protocol := fun n s₀ v s1 kap =>
  ∃ ys x H0 H gp post, n + 1 + ys.length = sizeLine ∧ RelV x v ∧ Z ys s₀ H0 ∧ s1.os = s₀.os ∧ AllBare s1.gens ∧ s1.heap.NoLimit ∧ s1.heap.IsGen a g ∧ Un (frs outer) [] H0 H (cut0 s₀.heap ng) s1.heap ∧ HOk P w H s1.heap ∧
    (∀ p ∈ gp, s1.heap.get? p.1 = some p.2 ∧ H p.1 = none ∧ p.1 ∉ frs outer ∧ ∀ v, p.2.data ≠ .cell v) ∧ (∃ o, (a, o) ∈ gp) ∧ Kc ys x H post ∧ ∀ s' H', Wok0 P w base outer gp s' H' → Z (ys ++ [x]) s' H' → post H' → kap (.send .none) s'
/-- the end -/
def FEnd (P : Program) (w : World) (outer : List Env) (ng : Nat) (Z : WakeZ) (Q : List V → Hp → Prop) (s₀ s1 : Shared) : Prop :=
  ∃ ys H0 H, Z ys s₀ H0 ∧ s1.os = s₀.os ∧ AllBare s1.gens ∧ Un (frs outer) [] H0 H (cut0 s₀.heap ng) s1.heap ∧ HOk P w H s1.heap ∧ Q ys H
def REnF (P : Program) (w : World) (outer : List Env) (ng : Nat) (Z : WakeZ) (Q : List V → Hp → Prop) : GenEnd := fun _ s₀ r s1 => ((r = .ok (.ret .none) ∨ r = .ok .next) ∧ FEnd P w outer ng Z Q s₀ s1) ∨ ∃ e, r = .error e ∧ False
/-- a generator that has not begun -/
def GMadeF (P : Program) (w : World) (K : Frag) (mg : Str → Option Value) (base : Heap) (k : Nat) (outer : List Env) (H : Hp) (s : Shared) (Kc : TurnK) (Q : List V → Hp → Prop) (u : Value) (s' : Shared) : Prop :=
  ∃ (a : Addr) (g : Nat) (c : Code), u = .ref a ∧ s.heap.objs.size ≤ a ∧ s'.heap.IsGen a g ∧ s'.gens[g]? = some (.fresh c) ∧ s'.os = s.os ∧ AllBare s'.gens ∧ s'.heap.NoLimit ∧ (∀ b o, s.heap.get? b = some o → s'.heap.get? b = some o) ∧
    ∀ (A : Around) (Z : WakeZ) (s2 : Shared), Room k A → A.frames = some outer → Env0 P w K mg base A outer s2 H → s2.heap = s'.heap → s2.os = s'.os → Z [] s2 H →
      Seg (model P w) A (REnF P w outer s.heap.objs.size Z Q) (YItF P w base outer s.heap.objs.size a g Z Kc) sizeLine s2 c ((model P w).den c) [] s2
def gcx0 (P : Program) (w : World) (K : Frag) (mg : Str → Option Value) (base : Heap) (N : List Str) (qual : Str) (scope : Scope) (f : Addr) (cd : Value) (A : Around) (outer : List Env) (s : Shared) (H : Hp) (pn : List (Addr × Obj)) : Cx :=
  { cxOf (L2.CX P w) P w K mg base N qual scope f cd A outer s H (fun _ _ _ => False) with pn := pn, xe := fun _ _ => False }
theorem cells_no {x : Str} : ∀ {names : List (Str × NameKind)} {n : Nat}, (∀ y ∈ names, y.2 ≠ .cell) → (cellsFrom n names []).lookup x = none
  | [], _, _ => rfl
  | (y, k) :: r, n, h => by
    have hk : (k == .cell) = false := by
      have := h (y, k) List.mem_cons_self
      cases k <;> first | rfl | exact absurd rfl this
    unfold cellsFrom
    rw [hk, if_neg Bool.false_ne_true]
    exact cells_no fun z hz => h z (List.mem_cons_of_mem _ hz)
structure GFF (P : Program) (w : World) (K : Frag) (mg : Str → Option Value) (base : Heap) (k : Nat) (f : Addr) (sp : SpF) : Prop where
  run : ∀ (A : Around) (outer : List Env) (s : Shared) (H : Hp) (us : List Value) (vs : List V) (Kc : TurnK) (Q : List V → Hp → Prop), Room k A → Env0 P w K mg base A outer s H → Vals vs us → sp vs H Kc Q →
    codeAny (model P w) A (.call (.ref f) ⟨us, []⟩) (fun r s' => match r with | .ok (.ret u) => GMadeF P w K mg base k outer H s Kc Q u s' | _ => False) s
theorem inv_swap {X Y : Cx} {pins : List (Addr × Obj)} {σ : L2.St} {H : Hp} {s : Shared} (I : Inv X pins σ H s) (e : Y = { X with xe := Y.xe }) : Inv Y pins σ H s := by
  rw [e]
  exact ⟨⟨I.ok.mod, I.ok.kind, I.ok.glob, I.ok.blt, I.ok.above, I.ok.inj, I.ok.has, I.ok.cab, I.ok.hd, I.ok.frames, I.ok.stk, I.ok.exf, I.ok.bs, I.ok.bsz, I.ok.noex, I.ok.exfs, I.ok.funs, I.ok.frf⟩, I.os, I.bare, I.base, I.loc, I.cell, I.free, I.freeC, I.pin, I.hok, I.len⟩
theorem inv_pn {X : Cx} {pn : List (Addr × Obj)} {σ : L2.St} {H : Hp} {s : Shared} (I : Inv X [] σ H s) (h : ∀ p ∈ pn, s.heap.get? p.1 = some p.2 ∧ H p.1 = none ∧ p.1 ≠ X.env.locals ∧ p.1 ∉ X.fs ∧ ∀ v, p.2.data ≠ .cell v) : Inv { X with pn := pn } [] σ H s :=
  ⟨⟨I.ok.mod, I.ok.kind, I.ok.glob, I.ok.blt, I.ok.above, I.ok.inj, I.ok.has, I.ok.cab, I.ok.hd, I.ok.frames, I.ok.stk, I.ok.exf, I.ok.bs, I.ok.bsz, I.ok.noex, I.ok.exfs, I.ok.funs, I.ok.frf⟩, I.os, I.bare, I.base, I.loc, I.cell, I.free, I.freeC, fun p hp => h p (by simpa using hp), I.hok, I.len⟩
/-- a generator def's promise to a loop, by its body -/
theorem gff_of {P : Program} {w : World} {K : Frag} {mg : Str → Option Value} {base : Heap} {k : Nat} {f : Addr} {x qual : Str} {params : Arguments} {body : List Stmt} {scope : Scope} {fd : FuncData} {N ps : List Str} {sp : SpF}
    (F : FunD K x qual params body scope [] [] f fd) (S : GScope N ps scope) (hnc : ∀ y ∈ scope.names, y.2 ≠ .cell) (len : ∀ vs H Kc Q, sp vs H Kc Q → vs.length = ps.length)
    (hbi : ∀ (kV doc pm : Value) (an : Option Addr) (cdv ct : Value) (us : List Value), us.length = ps.length → bindArgs (PySem.W.fnOf x qual params body scope .none kV doc pm an cdv ct) ⟨us, []⟩ = pure (ps.zip us)) {t : TurnK → TGn}
    (hbody : ∀ (cdv : Value) (A : Around) (outer : List Env) (s : Shared) (H : Hp) (pn : List (Addr × Obj)) (Z : WakeZ) (Kc : TurnK), Room k (A.deeper (envOfC qual scope s.heap.objs.size f cdv)) → Alone (gcx0 P w K mg base N qual scope f cdv A outer s H pn) →
      GSsf (gcx0 P w K mg base N qual scope f cdv A outer s H pn) Z Kc body (t Kc))
    (pure : ∀ vs H Kc Q, sp vs H Kc Q → t Kc { nx := fun ys _ H' => Q ys H', rt := fun ys v H' => v = .non ∧ Q ys H' } [] (start N vs) H) : GFF P w K mg base (k + 1) f sp := by
  refine ⟨fun A outer s H us vs Kc Q hr e0 r hsp => ?_⟩
  have hb := F.bindsN hbi
  obtain ⟨oc, od, dV, kV, doc, pm, an, cdv, ct, osl, rfl, lk, hcd, _, _⟩ := F.ex
  have hl := len _ _ _ _ hsp
  have hl2 : us.length = ps.length := by rw [← r.length]; exact hl
  have KX : K.In s.heap := e0.mod.kin.keeps fun b o e => (e0.bs b o e).1
  have lim : s.heap.NoLimit := e0.mod.nolimit.keeps fun b o e => (e0.bs b o e).1
  have hkind : ∀ y ∈ ps.zip us, scope.names.lookup y.1 = some .local ∨ (scope.names.lookup y.1 = some .cell ∧ ((cellsFrom (s.heap.objs.size + 1) scope.names []).lookup y.1).isSome = true) := fun ⟨n, v⟩ hy => by
    rcases S.par n (List.of_mem_zip hy).1 with q | q
    · exact .inl q
    · exact absurd rfl (hnc _ (PySem.mem_of_lookup q))
  have hbind := hb s us KX (by simpa using hl2)
  rw [List.append_nil] at hbind
  refine codeAny_call_generator hr.depth (KX _ _ lk) rfl S.co S.gen rfl (PySem.W.codeRec_of KX hcd) (hbind _ _ _ _ ?_)
  refine wpAny_newFunctionEnv_cells S.kind hkind fun env he s1 xx => ?_
  subst he
  have lim1 : s1.heap.NoLimit := lim.keeps xx.toInCall.keep
  refine ⟨lim1, ?_⟩
  obtain ⟨h1, tk, es1, hk1⟩ := xx.done
  have os1 : s1.os = s.os := by rw [es1]
  have gen1 : s1.gens = s.gens := by rw [es1]
  have lt1 : s.heap.objs.size < s1.heap.objs.size := xx.toInCall.ns.lt
  have main : ∀ (go : Obj) (nm qn : Value) (tk2 : Nat), go.cls = .type "generator" → go.data = .fields #[.int s1.gens.size 0, nm, qn] → go.slots = #[] → (∀ h : Heap, (h.push go).get? h.objs.size = some go) →
      GMadeF P w K mg base (k + 1) outer H s Kc Q (.ref s1.heap.objs.size) { s1 with gens := s1.gens.push (.fresh (.func body (envOfC qual scope s.heap.objs.size f cdv))), toks := tk2, heap := s1.heap.push go } := by
    intro go nm qn tk2 hgc hgd0 hgs hgp
    have hgen : ∀ h : Heap, h.get? s1.heap.objs.size = some go → h.IsGen s1.heap.objs.size s1.gens.size := fun h e => ⟨go, nm, qn, e, hgc, hgd0, hgs⟩
    have kpush : ∀ b o, s1.heap.get? b = some o → (s1.heap.push go).get? b = some o := fun b o e => Heap.get?_push_of_some _ e
    refine ⟨s1.heap.objs.size, s1.gens.size, _, rfl, Nat.le_of_lt lt1, hgen _ (hgp _), Array.getElem?_push_size .., os1, AllBare.push (by rw [gen1]; exact e0.bare) rfl, lim1.keeps kpush, fun b o e => kpush b o (xx.toInCall.keep b o e), ?_⟩
    intro Aw Z s2 hrw hfr e2 eh eo hz
    have eS : Env0 P w K mg base Aw outer s H := ⟨hfr, e0.mod, e0.bs, e0.bsz, e0.funs, e0.frf, e0.hok, e0.bare⟩
    have I1 : Inv (gcx0 P w K mg base N qual scope f cdv Aw outer s H []) [] (start N vs) H s1 := inv_swap (inv_startG (E := fun _ _ _ => False) S hrw.hd eS hl r xx) rfl
    have hgd : ∀ v, go.data ≠ .cell v := fun v q => by rw [hgd0] at q; cases q
    have al : Alone (gcx0 P w K mg base N qual scope f cdv Aw outer s H [(s1.heap.objs.size, go)]) := ⟨fun _ _ z => z, Nat.le_refl _, e0.bsz, fun q hq => by
      obtain ⟨_, o, ho, _⟩ := e0.funs.mem hq
      exact Heap.lt_size ho, fun y => cells_no hnc⟩
    have hfr0 : ∀ q ∈ frs outer, q < s.heap.objs.size := al.fr
    -- the frame stands in s2 as in s1
    have kp2 : ∀ b o, s1.heap.get? b = some o → s2.heap.get? b = some o := fun b o e => by rw [eh]; exact kpush b o e
    obtain ⟨m, ⟨oL, esL, epL, hL, hdL, hrL⟩, _⟩ := id I1.loc
    have I2 : Inv (gcx0 P w K mg base N qual scope f cdv Aw outer s H []) [] (start N vs) H s2 := I1.call' (ch := []) (eo.trans rfl) (Un.kept kp2) (I1.hok.kept kp2) e2.bare fun b z => by simp at z
    have hpn : s2.heap.get? s1.heap.objs.size = some go := by rw [eh]; exact hgp _
    have I3 : Inv (gcx0 P w K mg base N qual scope f cdv Aw outer s H [(s1.heap.objs.size, go)]) [] (start N vs) H s2 := inv_pn I2 fun p hp => by
      rw [List.mem_singleton.mp hp]
      refine ⟨hpn, I1.hok.fresh (Nat.le_refl _), Nat.ne_of_gt lt1, fun z => ?_, hgd⟩
      exact absurd (Nat.lt_trans (hfr0 _ z) lt1) (Nat.lt_irrefl _)
    have I4 := inv_reb I3
    have gz : Gnd (gcx0 P w K mg base N qual scope f cdv Aw outer s H [(s1.heap.objs.size, go)]) Z [] s2 H := ⟨hz, I3.sz⟩
    refine seg_func ?_
    refine seg_imp (R := GRf (gcx0 P w K mg base N qual scope f cdv Aw outer s H [(s1.heap.objs.size, go)]) Z fun ys v H' => v = .non ∧ Q ys H') (Y := GYf (gcx0 P w K mg base N qual scope f cdv Aw outer s H [(s1.heap.objs.size, go)]) Z Kc)
      (fun n s₀ r s1' hR => ?_) (fun n s₀ v s1' kap kap' hkk hY => ?_) sizeLine ?_
    · cases r with
      | error e => exact False.elim hR
      | ok fl =>
        cases fl with
        | next => exact False.elim hR
        | brk => exact False.elim hR
        | cont => exact False.elim hR
        | ret u =>
          obtain ⟨ys, v, ip, σ', H0, H', hn, hz', J, rv, ev, hQ⟩ := hR
          subst ev
          have eu : u = Value.none := rv
          subst eu
          exact .inl ⟨.inl rfl, ys, H0, H', hz'.z, J.os, J.bare, J.base, J.hok, hQ⟩
    · obtain ⟨ys, y, ip, σ', H0, H', oL', post, hn, rv, hz', J, hL', hk, hw⟩ := hY
      obtain ⟨m', ⟨o', es', ep', ho', hd', _⟩, _⟩ := id J.loc
      have ho' : s1'.heap.get? s.heap.objs.size = some o' := ho'
      have hL' : s1'.heap.get? s.heap.objs.size = some oL' := hL'
      rw [hL'] at ho'
      cases ho'
      refine ⟨ys, y, H0, H', (s.heap.objs.size, oL') :: ([(s1.heap.objs.size, go)] ++ ip), post, hn, rv, hz'.z, J.os, J.bare, J.nolimit, hgen _ (J.pin (s1.heap.objs.size, go) (List.mem_append_left _ (List.mem_singleton.mpr rfl))).1, J.base, J.hok, fun p hp => ?_, ⟨go, by simp⟩, hk, fun s' H2 wk z p => hkk _ _ (hw s' H2 ⟨wk.bare, wk.bs, wk.bsz, wk.funs, wk.frf, wk.hok, wk.gp⟩ z p)⟩
      rcases List.mem_cons.mp hp with e | hp
      · rw [e]
        refine ⟨hL', J.free, fun z => absurd (hfr0 _ z) (Nat.lt_irrefl _), fun v q => ?_⟩
        have q : oL'.data = .cell v := q
        rw [hd'] at q; cases q
      · obtain ⟨q1, q2, _, q4, q5⟩ := J.pin p hp
        exact ⟨q1, q2, q4, q5⟩
    · refine (hbody cdv Aw outer s H [(s1.heap.objs.size, go)] Z Kc (hrw.deeper _) al).run Aw [] _ sizeLine [] s2 H _ [] _ _ id id s2 (start N vs) H { nx := fun ys _ H' => Q ys H', rt := fun ys v H' => v = .non ∧ Q ys H' } ⟨over_func, rfl, rfl, rfl⟩ (Nat.add_zero _) gz (fun n ys s₀ s' fl hn hs => ?_) I4 (pure vs H Kc Q hsp)
      obtain ⟨H0, hz', hs⟩ := hs
      cases fl with
      | next =>
        obtain ⟨σ', H', J, hQ⟩ := hs
        exact seg_end (.ok (.ret .none)) ⟨ys, .non, [], σ', H0, H', hn, hz', J, rfl, rfl, hQ⟩
      | brk => obtain ⟨_, _, _, q⟩ := hs; exact False.elim q
      | cont => obtain ⟨_, _, _, q⟩ := hs; exact False.elim q
      | ret u =>
        obtain ⟨v, σ', H', J, rv, ev, hQ⟩ := hs
        exact seg_end (.ok (.ret u)) ⟨ys, v, [], σ', H0, H', hn, hz', J, rv, ev, hQ⟩
  exact main _ _ _ _ rfl rfl rfl fun h => Heap.get?_push_size _ rfl
end S
namespace S
open PySem PySem.Spec PyProof.Rows L2 GenW
section
variable (X : Cx)
def OpRg (f : Value → Value → Sem Value) (r : R2) : Prop := ∀ (pins : List (Addr × Obj)) (s : Shared) (σ : L2.St) (H : Hp) (x y : V) (v u : Value) (Q : VK), Inv X pins σ H s → RelV x v → RelV y u → r x y H Q →
  wpAny (model X.prog X.w) X.A (f v u) (fun z s' => s'.gens = s.gens ∧ EP X pins σ Q z s') X.xe s
structure PEg (e : Expr) (t : TE) : Prop where
  run : ∀ (pins : List (Addr × Obj)) (s : Shared) (σ : L2.St) (H : Hp) (Q : VK), Inv X pins σ H s → t σ H Q → wpAny (model X.prog X.w) X.A (eval e X.env) (fun z s' => s'.gens = s.gens ∧ EP X pins σ Q z s') X.xe s
structure PTg (e : Expr) (t : TT) : Prop where
  run : ∀ (pins : List (Addr × Obj)) (s : Shared) (σ : L2.St) (H : Hp) (Q : Bool → Hp → Prop), Inv X pins σ H s → t σ H Q → wpAny (model X.prog X.w) X.A (isTrue e X.env (eval e X.env)) (fun z s' => s'.gens = s.gens ∧ TP X pins σ Q z s') X.xe s
structure PSg (st : Stmt) (t : TS) : Prop where
  run : ∀ (pins : List (Addr × Obj)) (s : Shared) (σ : L2.St) (H : Hp) (D : Ends), Inv X pins σ H s → t D σ H → wpAny (model X.prog X.w) X.A (exec st X.env) (fun z s' => s'.gens = s.gens ∧ SP X pins D z s') X.xe s
structure PSsg (st : List Stmt) (t : TS) : Prop where
  run : ∀ (pins : List (Addr × Obj)) (s : Shared) (σ : L2.St) (H : Hp) (D : Ends), Inv X pins σ H s → t D σ H → wpAny (model X.prog X.w) X.A (execs st X.env) (fun z s' => s'.gens = s.gens ∧ SP X pins D z s') X.xe s
structure PGg (tg : Expr) (t : TG) : Prop where
  run : ∀ (pins : List (Addr × Obj)) (s : Shared) (σ : L2.St) (H : Hp) (v : V) (u : Value) (Q : L2.St → Hp → Prop), Inv X pins σ H s → RelV v u → t v σ H Q →
    wpAny (model X.prog X.w) X.A (assign tg X.env u) (fun _ s' => s'.gens = s.gens ∧ ∃ σ' H', Inv X pins σ' H' s' ∧ Q σ' H') X.xe s
structure PGsg (ts : List Expr) (t : TGs) : Prop where
  run : ∀ (pins : List (Addr × Obj)) (s : Shared) (σ : L2.St) (H : Hp) (vs : List V) (us : List Value) (Q : L2.St → Hp → Prop), Inv X pins σ H s → Vals vs us → t vs σ H Q →
    wpAny (model X.prog X.w) X.A (assignInOrder ((assignEach ts X.env).map (·.2)) us) (fun _ s' => s'.gens = s.gens ∧ ∃ σ' H', Inv X pins σ' H' s' ∧ Q σ' H') X.xe s
end
section
variable {X : Cx} {pos : Pos} {a b c e : Expr} {ta tb tc te : TE}
theorem pvg (i : Nat) {x : Str} (hN : X.N[i]? = some x := by rfl) (hv : Vis X.env.scope x := by first | exact Or.inl rfl | exact Or.inr (Or.inl rfl) | exact Or.inr (Or.inr rfl)) (hd : (x == ("__debug__" : Str)) = false := by decide)
    (hcd : (x == ("__classdict__" : Str)) = false := by decide) : PEg X (.Name x pos) (dVar i) := by
  refine ⟨fun pins s σ H Q I h => ?_⟩
  unfold dVar onSome at h
  cases e : nth σ i with
  | none => rw [e] at h; exact h.elim
  | some v =>
    rw [e] at h
    obtain ⟨m, hn, hl⟩ := I.loc
    obtain ⟨u, r, l⟩ := hl i x v hN (nth_ok e) hv
    have fin : s.gens = s.gens ∧ EP X pins σ Q u s := ⟨rfl, v, H, I, r, h⟩
    rcases l with ⟨hk, hm⟩ | ⟨hk, c, hc, hcell⟩
    · exact wpAny_Name (wpAny_loadName_local I.ok.kind hk hn hm fin) hd
    · rcases hk with hk | hk
      · exact wpAny_Name (wpAny_loadName_cell I.ok.kind hk hc hcell fin) hd
      · exact wpAny_Name (wpAny_loadName_free I.ok.kind hk hc hcell fin hcd) hd
theorem peg_int {i : Int} {j : Nat} : PEg X (.Constant (.int i) j pos) (tC (.int i)) := ⟨fun _ _ _ H _ I h => wpAny_Constant_int ⟨rfl, .int i, H, I.tok _, ⟨_, rfl⟩, h⟩⟩
theorem og_add {r : R2} (e : r = oI0 (fun i j => i + j)) : OpRg X (binaryOp .Add) r := fun pins s σ H x y v u Q I rx ry q => by
  subst e
  cases x <;> cases y <;> try exact q.elim
  rename_i i j
  obtain ⟨t, rfl⟩ := rx
  obtain ⟨t', rfl⟩ := ry
  exact add_int ⟨rfl, .int (i + j), H, I.tok _, ⟨_, rfl⟩, q⟩
theorem og_sub : OpRg X (binaryOp .Sub) oSub := fun pins s σ H x y v u Q I rx ry q => by
  cases x <;> cases y <;> try exact q.elim
  rename_i i j
  obtain ⟨t, rfl⟩ := rx
  obtain ⟨t', rfl⟩ := ry
  exact PyProof.Rows.sub_int ⟨rfl, .int (i - j), H, I.tok _, ⟨_, rfl⟩, q⟩
/-- + of two numbers alone -/
theorem og_addK {K : Frag} : OpRg X (binaryOp .Add) (fun x y H Q => int2 (fun i j => oAdd K (.int i) (.int j) H Q) x y) := fun pins s σ H x y v u Q I rx ry q => by
  cases x <;> cases y <;> try exact q.elim
  rename_i i j
  obtain ⟨t, rfl⟩ := rx
  obtain ⟨t', rfl⟩ := ry
  exact add_int ⟨rfl, .int (i + j), H, I.tok _, ⟨_, rfl⟩, q⟩
theorem og_lt : OpRg X (compareOp .Lt) oLt := fun pins s σ H x y v u Q I rx ry q => by
  cases x <;> cases y <;> try exact q.elim
  rename_i i j
  obtain ⟨t, rfl⟩ := rx
  obtain ⟨t', rfl⟩ := ry
  exact lt_int ⟨rfl, .bl (decide (i < j)), H, I, rfl, q⟩
theorem og_le : OpRg X (compareOp .LtE) oLe := fun pins s σ H x y v u Q I rx ry q => by
  cases x <;> cases y <;> try exact q.elim
  rename_i i j
  obtain ⟨t, rfl⟩ := rx
  obtain ⟨t', rfl⟩ := ry
  exact le_int ⟨rfl, .bl (decide (i ≤ j)), H, I, rfl, q⟩
theorem peg_op {op : Operator} {r : R2} (ho : OpRg X (binaryOp op) r) (ha : PEg X a ta) (hb : PEg X b tb) : PEg X (.BinOp a op b pos) (tOp r ta tb) := by
  refine ⟨fun pins s σ H Q I h => ?_⟩
  refine wpAny_BinOp (thn (ha.run pins s σ H _ I h) fun v s1 ⟨g1, x, H1, I1, r1, q1⟩ => thn (hb.run pins s1 σ H1 _ I1 q1) fun u s2 ⟨g2, y, H2, I2, r2, q2⟩ => thn (ho pins s2 σ H2 x y v u Q I2 r1 r2 q2) fun w s3 ⟨g3, q3⟩ => ⟨?_, q3⟩)
  rw [g3, g2, g1]
theorem ptg_chain {op op' : CmpOp} {r r' : R2} (ho : OpRg X (compareOp op) r) (ho' : OpRg X (compareOp op') r') (ha : PEg X a ta) (hb : PEg X b tb) (hc : PEg X c tc)
    (hm : lastMarks [op, op'] [b, c] = false := by with_unfolding_all rfl) : PTg X (.Compare a [op, op'] [b, c] pos) (dChainT r r' ta tb tc) := by
  refine ⟨fun pins s σ H Q I h => ?_⟩
  refine isTrue_chain (thn (ha.run pins s σ H _ I h) fun v s1 ⟨g1, x, H1, I1, r1, q1⟩ => test_link (thn (hb.run pins s1 σ H1 _ I1 q1) fun u s2 ⟨g2, y, H2, I2, r2, q2⟩ =>
    thn (ho pins s2 σ H2 x y v u _ I2 r1 r2 q2) fun d s3 ⟨g3, z, H3, I3, r3, q3⟩ => ?_)) hm
  obtain ⟨k, e, q3⟩ := isB_ex q3
  subst e
  cases r3
  have gg : s3.gens = s.gens := by rw [g3, g2, g1]
  refine wpAny_truthy_bool ?_
  cases k with
  | false => exact ite_ff ⟨gg, H3, I3, q3⟩
  | true =>
    refine ite_tt (test_last (thn (hc.run pins s3 σ H3 _ I3 q3) fun w' s4 ⟨g4, z', H4, I4, r4, q4⟩ => thn (ho' pins s4 σ H4 y z' u w' _ I4 r2 r4 q4) fun d' s5 ⟨g5, z2, H5, I5, r5, q5⟩ => ?_))
    obtain ⟨k2, e2, q5⟩ := isB_ex q5
    subst e2
    cases r5
    exact wpAny_truthy_bool ⟨by rw [g5, g4]; exact gg, H5, I5, q5⟩
theorem psg_if {sa sb : List Stmt} {tt : TT} {t u : TS} (hc : PTg X c tt) (ha : PSsg X sa t) (hb : PSsg X sb u) : PSg X (.If c sa sb pos) (dIfS tt t u) := by
  refine ⟨fun pins s σ H D I h => ?_⟩
  refine wpAny_If (thn (hc.run pins s σ H _ I h) fun d s1 ⟨g1, H1, I1, q1⟩ => ?_)
  cases d with
  | true => exact thn (ha.run pins s1 σ H1 D I1 q1) fun _ _ ⟨g2, q⟩ => ⟨g2.trans g1, q⟩
  | false => exact thn (hb.run pins s1 σ H1 D I1 q1) fun _ _ ⟨g2, q⟩ => ⟨g2.trans g1, q⟩
theorem pssg_nil : PSsg X [] tNext := ⟨fun _ _ σ H _ I h => wpAny_execs_nil ⟨rfl, σ, H, I, h⟩⟩
theorem pssg_cons {st : Stmt} {rest : List Stmt} {t u : TS} (h1 : PSg X st t) (h2 : PSsg X rest u) : PSsg X (st :: rest) (tSeq t u) := by
  refine ⟨fun pins s σ H D I h => ?_⟩
  refine wpAny_execs_cons (thn (h1.run pins s σ H { D with nx := u D } I h) fun f s1 ⟨g1, q⟩ => ?_)
  cases f with
  | next =>
    obtain ⟨σ', H', I', q⟩ := q
    exact thn (h2.run pins s1 σ' H' D I' q) fun _ _ ⟨g2, q⟩ => ⟨g2.trans g1, q⟩
  | ret v => exact ⟨g1, q⟩
  | brk => exact ⟨g1, q⟩
  | cont => exact ⟨g1, q⟩
theorem pssg_one {st : Stmt} {t : TS} (h1 : PSg X st t) : PSsg X [st] t := by
  have h2 := pssg_cons h1 (pssg_nil (X := X))
  exact ⟨fun pins s σ H D I h => h2.run pins s σ H D I h⟩
theorem pssg_stop {st : List Stmt} {t : TS} (h : PSsg X st t) : PSsg X st (stop t) := ⟨fun pins s σ H D I q => h.run pins s σ H D I q.go⟩
/-- a local name is stored -/
theorem store_g {pins : List (Addr × Obj)} {σ : L2.St} {H : Hp} {s : Shared} {i : Nat} {x : Str} {v : V} {u : Value} {Q : Unit → Shared → Prop} (I : Inv X pins σ H s) (hN : X.N.Nodup) (hi : X.N[i]? = some x) (hk : X.env.scope.names.lookup x = some .local) (r : RelV v u)
    (h : ∀ s', s'.gens = s.gens → Inv X pins (σ.set i (some v)) H s' → Q () s') : wpAny (model X.prog X.w) X.A (storeName X.env x u) Q X.xe s := by
  obtain ⟨m, hn, hl⟩ := id I.loc
  have hcls : (X.env.scope.kind == .class || (X.env.scope.kind == .module && X.env.locals != X.env.globals)) = false := by rw [I.ok.kind]; rfl
  have hiσ : i < σ.length := by rw [I.len]; exact (List.getElem?_eq_some_iff.mp hi).1
  have cne := I.cne
  refine wpAny_storeName_local hk hn (fun h' hn' hs => ?_) hcls
  obtain ⟨oL, _, _, hoL, _⟩ := id hn
  have old : ∀ q o, X.s_0.heap.get? q = some o → q ≠ X.env.locals := fun q o e => Nat.ne_of_lt (Nat.lt_of_lt_of_le (Heap.lt_size e) I.ok.above)
  have nl : ∀ q o, H q = some o → q ≠ X.env.locals := fun q o e z => by rw [z, I.free] at e; cases e
  refine h _ rfl ⟨I.ok, I.os, I.bare, ⟨fun q o e n hb hx => (hs.2 q (old q o e)).trans (I.base.keep q o e n hb hx), fun q o e n hb hx => ?_, I.base.free, fun q o e hx => ?_, I.base.tups, I.base.frzs, I.base.tbls⟩, ⟨_, hn', fun j y v' e1 e2 e3 => ?_⟩, fun y c e => ?_, I.free, I.freeC, fun p hp => ?_, fun q o e => ?_, by simpa using I.len⟩
  · obtain ⟨sl, e1⟩ := I.base.slot q o e n hb hx
    exact ⟨sl, (hs.2 q (old q o e)).trans e1⟩
  · obtain ⟨o', e1⟩ := I.base.there q o e hx
    exact ⟨o', (hs.2 q (old q o e)).trans e1⟩
  · by_cases hj : j = i
    · subst hj
      rw [hi] at e1
      cases e1
      rw [List.getElem?_set_self hiσ] at e2
      cases e2
      exact ⟨u, r, .inl ⟨hk, by simp⟩⟩
    · rw [List.getElem?_set_ne (Ne.symm hj)] at e2
      obtain ⟨u', r', q⟩ := hl j y v' e1 e2 e3
      refine ⟨u', r', q.imp (fun ⟨k, e⟩ => ⟨k, ?_⟩) fun ⟨k, c, e, z⟩ => ⟨k, c, e, z.sameBut hs (cne y c e)⟩⟩
      have : y ≠ x := fun e => hj (nodup_ix hN e1 (e ▸ hi))
      simp [this, e]
  · obtain ⟨w', z⟩ := I.cell y c e
    exact ⟨w', z.sameBut hs (cne y c e)⟩
  · obtain ⟨e, n, ne, nf, d⟩ := I.pin p hp
    exact ⟨(hs.2 p.1 ne).trans e, n, ne, nf, d⟩
  · refine (I.hok q o e).stay (fun c w' hc z => (hs.2 c ?_).trans z) (fun _ z => z) fun _ _ z => z
    rcases hc with hc | hc
    · rw [hc]; exact nl q o e
    · exact nl c _ hc
theorem psg_set {i : Nat} {x : Str} {pos' : Pos} (hN : X.N.Nodup) (hi : X.N[i]? = some x) (hx : Loc X.env.scope x) (he : PEg X e te) (hs : swapsWith e (some (.Name x pos')) pos.line X.env = pure false := by rfl) (hf : X.env.scope.names.lookup x = some .local := by rfl) :
    PSg X (.Assign [.Name x pos'] e pos) (tAsg te (gName i)) := by
  refine ⟨fun pins s σ H D I h => ?_⟩
  refine wpAny_Assign_Name (thn (he.run pins s σ H _ I h) fun v s1 ⟨g1, y, H1, I1, r1, q1⟩ => ?_) hs
  exact store_g I1 hN hi hf r1 fun s2 g2 I2 => ⟨g2.trans g1, _, H1, I2, q1⟩
theorem pgg_name {i : Nat} {x : Str} (hN : X.N.Nodup) (hi : X.N[i]? = some x) (hx : Loc X.env.scope x) (hf : X.env.scope.names.lookup x = some .local := by rfl) : PGg X (.Name x pos) (gName i) := by
  refine ⟨fun pins s σ H v u Q I r h => ?_⟩
  exact wpAny_assign_Name (store_g I hN hi hf r fun s' g' I' => ⟨g', _, H, I', h⟩)
theorem pgsg_nil : PGsg X [] gNil := by
  refine ⟨fun pins s σ H vs us Q I r h => ?_⟩
  obtain ⟨e, h⟩ := h
  subst e
  cases r
  exact assignInOrder_nil ⟨rfl, σ, H, I, h⟩
theorem pgsg_cons {es : List Expr} {t : TG} {u : TGs} (h1 : PGg X e t) (h2 : PGsg X es u)
    (hs : (assignEach (e :: es) X.env).map (·.2) = assign e X.env :: (assignEach es X.env).map (·.2) := by rfl) : PGsg X (e :: es) (gCons t u) := by
  refine ⟨fun pins s σ H vs us Q I r h => ?_⟩
  obtain ⟨v, vr, e1, h⟩ := h
  subst e1
  cases r with
  | cons r rr =>
    rw [hs]
    refine assignInOrder_cons (thn (h1.run pins s σ H _ _ _ I r h) fun _ s1 ⟨g1, σ1, H1, I1, q1⟩ => ?_)
    exact thn (h2.run pins s1 σ1 H1 _ _ Q I1 rr q1) fun _ _ ⟨g2, q⟩ => ⟨g2.trans g1, q⟩
theorem pgg_tup {es : List Expr} {k : Nat} {t : TGs} {n : Nat} (hc : X.calm = true) (h : PGsg X es t)
    (hn : (assignEach es X.env).length = n := by rfl) (hst : (assignEach es X.env).findIdx? (·.1) = none := by rfl) : PGg X (.Tuple es k pos) (gTup X.K n t) := by
  refine ⟨fun pins s σ H v u Q I r hw => ?_⟩
  obtain ⟨a, xs, e1, hq, hl, hw⟩ := hw
  subst e1
  cases r
  obtain ⟨its, rv, ht, hz⟩ := I.tuple hq
  refine assign_Tuple_tuple (I.ok.hd hc) ht (by simp [hn, ← hl, rv.length]) hst fun h' hx => ?_
  have I1 : Inv X pins σ H { s with heap := h' } := I.kept (t' := s.toks) fun b o e => hx b o (Nat.ne_of_lt (Heap.lt_size e)) e
  exact h.run pins _ σ H xs _ Q I1 (by simpa using rv) hw
end
end S
namespace S
open PySem PySem.Spec PyProof.Rows L2
/-- + of two numbers -/
def oAddI : R2 := oI0 fun i j => i + j
end S
namespace S
open PySem PySem.Spec PyProof.Rows L2 GenW
section
variable {X : Cx} {pins : List (Addr × Obj)} {σ : L2.St} {H H' : Hp} {s s' : Shared}
theorem inv_gens (I : Inv X pins σ H s) {g : Nat} {x : GenState} (hx : x.bare = true) : Inv X pins σ H (s.setGen g x) :=
  ⟨I.ok, I.os, allBare_setGen I.bare hx, I.base, I.loc, I.cell, I.free, I.freeC, I.pin, I.hok, I.len⟩
theorem stk_mem (I : Inv X pins σ H s) {q : Addr} (h : q ∉ X.fs) (h2 : q ≠ X.env.locals) : q ∉ frs X.stack := fun z => (List.mem_cons.mp (I.stkSub q z)).elim h2 h
/-- behind a run that promises for the n oldest objects -/
theorem inv_far {n : Nat} (I : Inv X pins σ H s) (hx : ∀ b, b ∉ X.ex) (hL : X.env.locals < n) (hcell : ∀ x c, X.env.cells.lookup x = some c → c < n ∧ c ∉ frs X.stack) (hp : ∀ p ∈ X.pn ++ pins, p.1 < n) (u : Un (frs X.stack) [] H H' (cut0 s.heap n) s'.heap) (os : s'.os = s.os) (hok : HOk X.prog X.w H' s'.heap) (hb : AllBare s'.gens) :
    Inv X pins σ H' s' := by
  have ne : ∀ q : Addr, q ∉ ([] : List Addr) := fun q z => by cases z
  have old : ∀ {q : Addr} {o : Obj}, X.s_0.heap.get? q = some o → q < n := fun {q o} e => Nat.lt_of_lt_of_le (Heap.lt_size e) (Nat.le_trans I.ok.above (Nat.le_of_lt hL))
  have nl : ∀ {q : Addr} {o : Obj}, X.s_0.heap.get? q = some o → q ≠ X.env.locals := fun {q o} e => Nat.ne_of_lt (Nat.lt_of_lt_of_le (Heap.lt_size e) I.ok.above)
  obtain ⟨m, ⟨oL, es, ep, hoL, hd, hr⟩, hl⟩ := id I.loc
  obtain ⟨sl, hoL'⟩ := u.any (cut0_at hL hoL) I.free (ne _)
  have cellK : ∀ x c, X.env.cells.lookup x = some c → ∀ v, s.heap.IsCell c v → s'.heap.IsCell c v := fun x c e v ⟨o, ho, hdd⟩ => ⟨o, u.keep c o (cut0_at (hcell x c e).1 ho) (I.freeC x c e) (hcell x c e).2 (ne _), hdd⟩
  refine ⟨I.ok, os.trans I.os, hb, ⟨fun q o e h1 h2 h3 => ?_, fun q o e h1 h2 h3 => ?_, fun q o e h1 h3 => ?_, fun q o e h3 => ?_, fun q xs e => u.tups q xs (I.base.tups q xs e), fun q o w e => u.frzs q o w (I.base.frzs q o w e), fun q ps e => ?_⟩, ⟨m, ⟨_, es, ep, hoL', hd, hr⟩, fun i x v e1 e2 e3 => ?_⟩, fun x c e => ?_, ?_, fun x c e => ?_, fun p h => ?_, hok, I.len⟩
  · exact u.keep q o (cut0_at (old e) (I.base.keep q o e h1 h2 h3)) (I.base.free q o e h1 h3) (stk_mem I h2 (nl e)) (ne _)
  · obtain ⟨sl1, e1⟩ := I.base.slot q o e h1 h2 h3
    obtain ⟨sl2, e2⟩ := u.any (cut0_at (old e) e1) (I.base.free q o e h1 h3) (ne _)
    exact ⟨sl2, e2⟩
  · obtain ⟨o', e1⟩ := I.base.there q o e h3
    exact u.free q o' (cut0_at (old e) e1) (I.base.free q o e h1 h3) (ne _)
  · obtain ⟨o', e1⟩ := I.base.there q o e h3
    exact u.there q o' (cut0_at (old e) e1) (ne _)
  · obtain ⟨m1, e1⟩ := I.base.tbls q ps e
    obtain ⟨m2, e2⟩ := u.tbls q _ e1
    exact ⟨m1 ++ m2, by rw [e2, Array.append_assoc]⟩
  · obtain ⟨u', r, l⟩ := hl i x v e1 e2 e3
    exact ⟨u', r, l.imp (fun z => z) fun ⟨k, c, e, z⟩ => ⟨k, c, e, cellK x c e _ z⟩⟩
  · obtain ⟨v, z⟩ := I.cell x c e
    exact ⟨v, cellK x c e v z⟩
  · exact u.free _ oL (cut0_at hL hoL) I.free (ne _)
  · obtain ⟨v, o, ho, _⟩ := I.cell x c e
    exact u.free c o (cut0_at (hcell x c e).1 ho) (I.freeC x c e) (ne _)
  · obtain ⟨k1, k2, k3, k4, k5⟩ := I.pin p h
    exact ⟨u.keep p.1 p.2 (cut0_at (hp p h) k1) k2 (stk_mem I k4 k3) (ne _), u.free p.1 p.2 (cut0_at (hp p h) k1) k2 (ne _), k3, k4, k5⟩
end
/-- a generator that a loop walks -/
abbrev TGenF := TurnK → (List V → Hp → Prop) → L2.St → Hp → Prop
structure PGenF (X : Cx) (k : Nat) (e : Expr) (tg : TGenF) : Prop where
  run : ∀ (pins : List (Addr × Obj)) (s : Shared) (σ : L2.St) (H : Hp) (Kc : TurnK) (Q : List V → Hp → Prop), Inv X pins σ H s → tg Kc Q σ H →
    wpAny (model X.prog X.w) X.A (eval e X.env) (fun u s' => ∃ H1 sc, Inv X pins σ H1 sc ∧ GMadeF X.prog X.w X.K X.mg X.base k X.stack H1 sc Kc Q u s') X.xe s
/-- o.m(), o an instance with slots -/
def tMethFS (K : Frag) (c : Str) (sp : SpF) (ta : TE) : TGenF := fun Kc Q σ H => ta σ H fun x H1 => match x with
  | .ref a => IsO K H1 c a (sp [.ref a] H1 Kc Q)
  | _ => False
theorem pgenF_meth0 {X : Cx} {k : Nat} {g : Addr} {sp : SpF} {c m : Str} {pos apos : Pos} {o : Expr} {ta : TE} {pl : Sem Bool} (hc : SlX.SCls X.K (He.ga X.K c)) (hm : Meth X.K (He.ga X.K c) m g) (F : GFF X.prog X.w X.K X.mg X.base k g sp) (hr : Room k X.A) (he : PE X o ta)
    (ht : eval (.Call (.Attribute o m apos) [] [] pos) X.env = (do
      let ov ← eval o X.env
      standAt apos.atName
      let (f, first) ← holding [ov] (getMethod ov m pl)
      callWith pos f first (backTo pos (starEach [] X.env)) (backToKw pos (keywordEach [] X.env))) := by rfl) :
    PGenF X k (.Call (.Attribute o m apos) [] [] pos) (tMethFS X.K c sp ta) := by
  refine ⟨fun pins s σ H Kc Q I h => ?_⟩
  refine PySem.W.methodCall_KW (pl := pl) (thn (he.run pins s σ H _ I h) fun u s1 ⟨x, H1, I1, rx, q⟩ => ?_) ht
  cases x <;> try exact q.elim
  cases rx
  obtain ⟨⟨dx, vs, hsl⟩, q⟩ := q
  refine SlX.getmethsl_ok I1 hsl hc hm ?_
  refine PySem.W.callWith_K0 (first := [.ref _]) I1.kIn hm.kp (wpAny_call (codeAny_mono (F.run X.A X.stack s1 H1 [.ref _] [.ref _] Kc Q hr I1.env0 (.cons rfl .nil) q) fun r s2 hq => ?_))
  cases r with
  | error e => exact False.elim hq
  | ok fl =>
    cases fl with
    | ret u => exact ⟨H1, s1, I1, hq⟩
    | next => exact False.elim hq
    | brk => exact False.elim hq
    | cont => exact False.elim hq
/-- the loop: W tells the slots by what was handed out -/
structure LpF (tg : TGenF) (g : TG) (tb : TS) (D : Ends) (σ : L2.St) (H : Hp) : Prop where
  ex : ∃ W : List V → L2.St → Prop, W [] σ ∧ tg (fun ys x H1 post => ∀ σ1, W ys σ1 → g x σ1 H1 fun σ2 H2 => tb { D with nx := fun σ3 H3 => W (ys ++ [x]) σ3 ∧ post H3, ct := fun σ3 H3 => W (ys ++ [x]) σ3 ∧ post H3, bk := D.nx } σ2 H2) (fun ys H1 => ∀ σ1, W ys σ1 → D.nx σ1 H1) σ H
def dForF (tg : TGenF) (g : TG) (tb : TS) : TS := fun D σ H => LpF tg g tb D σ H
theorem ps_forF {X : Cx} {k : Nat} {tgt iter : Expr} {body : List Stmt} {tg : TGenF} {g : TG} {tb : TS} {pos : Pos} (hp : PassesOwn (model X.prog X.w) X.A X.env X.xe) (hc : X.calm = true) (hi : PGenF X k iter tg) (hr : Room (k + 1) X.A) (hg : PGg X tgt g) (hb : PSsg X body tb) (hnc : ∀ x, X.env.cells.lookup x = none)
    (hst : X.stack = X.env :: X.outer := by rfl) (hfr : X.env.frame = some X.env.locals := by rfl) (hex : X.ex = [] := by rfl) (hs : ∀ x, foldedSetIterable iter X.env x = pure x := by intro _; rfl) : PS X (.For tgt iter body [] pos) (dForF tg g tb) := by
  refine ⟨fun pins s σ H D I h => ?_⟩
  obtain ⟨W, w0, h⟩ := h.ex
  refine wpAny_For (thn (hi.run pins s σ H _ _ I h) fun u s1 ⟨H1, sc, I1, hG⟩ => ?_) hs
  obtain ⟨a, gn, c, rfl, ha, hgen, hgs, hos, hbare, hlim, hkp, wake⟩ := hG
  refine wpAny_pyIter_gen hgen ?_
  have hx : ∀ b, b ∉ X.ex := fun b z => by rw [hex] at z; cases z
  have mF : ∀ q, q ∈ X.env.locals :: X.fs → q ∈ frs X.stack := fun q hq => by
    rw [hst]
    unfold frs
    rw [List.filterMap_cons, hfr]
    exact hq
  have hL : X.env.locals < sc.heap.objs.size := I1.lt
  have hcell : ∀ x c, X.env.cells.lookup x = some c → c < sc.heap.objs.size ∧ c ∉ frs X.stack := fun x c e => by rw [hnc] at e; cases e
  have hpn : ∀ p ∈ X.pn ++ pins, p.1 < sc.heap.objs.size := fun p hp => Heap.lt_size (I1.pin p hp).1
  have I2 : Inv X pins σ H1 s1 := I1.call' (ch := []) hos (Un.kept hkp) (I1.hok.kept hkp) hbare fun b z => by simp at z
  have hr1 : Room k X.A.in1 := hr.in1
  have hdp : X.A.depth < recursionLimit := by have := hr.dp; omega
  refine codeAny_forLoop_any (fun n s' => ∃ ys σ' H' gs, Inv X pins σ' H' s' ∧ W ys σ' ∧ s'.heap.IsGen a gn ∧ s'.gens[gn]? = some gs ∧
    gs.Goes (model X.prog X.w) X.A.in1 (REnF X.prog X.w X.stack sc.heap.objs.size (fun ys s H => ∃ σ, Inv X pins σ H s ∧ W ys σ) (fun ys H1 => ∀ σ1, W ys σ1 → D.nx σ1 H1))
      (YItF X.prog X.w X.base X.stack sc.heap.objs.size a gn (fun ys s H => ∃ σ, Inv X pins σ H s ∧ W ys σ) (fun ys x H1 post => ∀ σ1, W ys σ1 → g x σ1 H1 fun σ2 H2 => tb { D with nx := fun σ3 H3 => W (ys ++ [x]) σ3 ∧ post H3, ct := fun σ3 H3 => W (ys ++ [x]) σ3 ∧ post H3, bk := D.nx } σ2 H2)) n (.send .none) (s'.setGen gn .running)) ?_ sizeLine ?_
  · rintro n s3 ⟨ys, σ3, H3, gs, I3, w3, hg3, hgs3, hgo⟩
    have hgl : gn < s3.gens.size := (Array.getElem?_eq_some_iff.mp hgs3).1
    refine wpAny_gsz (n := gn + 1) hgl (next_genG (I3.ok.hd hc) I3.nolimit hdp hg3 hgs3 hgo (fun v s4 gs' hbr hy => ?_) (fun s4 hf h' hk => ?_) fun e s4 he => he.elim)
    · intro hsz
      obtain ⟨ys', x, H0, H4, gp, post, hn, rv, ⟨σ0, J0, w0'⟩, os4, b4, lim4, gen4, un4, hok4, hgp, ⟨ao, hao⟩, hk, hw⟩ := hy
      have sz4 : gn < (s4.setGen gn gs').gens.size := hsz
      have J1 : Inv X pins σ0 H4 s4 := inv_far J0 hx hL hcell hpn un4 os4 hok4 b4
      have J2 : Inv X pins σ0 H4 (s4.setGen gn gs') := inv_gens J1 hbr
      have J3 : Inv X (pins ++ gp) σ0 H4 (s4.setGen gn gs') := J2.pins_of fun p hp => by
        rcases List.mem_append.mp hp with z | z
        · exact J2.pin p (List.mem_append_right _ z)
        · obtain ⟨q1, q2, q3, q4⟩ := hgp p z
          exact ⟨q1, q2, fun e => q3 (mF _ (by rw [e]; exact List.mem_cons_self)), fun e => q3 (mF _ (List.mem_cons_of_mem _ e)), q4⟩
      obtain ⟨o, nm, qn, ho, hcls, hdat, hsl⟩ := id gen4
      refine go_of (n := "generator") (by exact ho) hcls hdat (by decide) ?_
      refine wpAny_passesOwn hp (thn (hg.run _ _ σ0 H4 x v _ J3 rv (hk σ0 w0')) fun _ s5 ⟨g5, σ5, H5, I5, q5⟩ => ?_)
      refine wpAny_passesOwn hp (thn (hb.run _ s5 σ5 H5 _ I5 q5) fun f s6 ⟨g6, q6⟩ => ?_)
      have gg : s6.gens = (s4.setGen gn gs').gens := g6.trans g5
      have again : ∀ {σ7 : L2.St} {H7 : Hp}, Inv X (pins ++ gp) σ7 H7 s6 → W (ys' ++ [x]) σ7 ∧ post H7 → ∃ m, m < n ∧ ∃ ys σ' H' gs, Inv X pins σ' H' s6 ∧ W ys σ' ∧ s6.heap.IsGen a gn ∧ s6.gens[gn]? = some gs ∧
          gs.Goes (model X.prog X.w) X.A.in1 (REnF X.prog X.w X.stack sc.heap.objs.size (fun ys s H => ∃ σ, Inv X pins σ H s ∧ W ys σ) (fun ys H1 => ∀ σ1, W ys σ1 → D.nx σ1 H1))
            (YItF X.prog X.w X.base X.stack sc.heap.objs.size a gn (fun ys s H => ∃ σ, Inv X pins σ H s ∧ W ys σ) (fun ys x H1 post => ∀ σ1, W ys σ1 → g x σ1 H1 fun σ2 H2 => tb { D with nx := fun σ3 H3 => W (ys ++ [x]) σ3 ∧ post H3, ct := fun σ3 H3 => W (ys ++ [x]) σ3 ∧ post H3, bk := D.nx } σ2 H2)) m (.send .none) (s6.setGen gn .running) := by
        intro σ7 H7 I7 ⟨w7, p7⟩
        have I8 : Inv X pins σ7 H7 s6 := I7.unpinned
        have I9 : Inv X pins σ7 H7 (s6.setGen gn .running) := inv_gens I8 rfl
        have pin : ∀ p ∈ gp, s6.heap.get? p.1 = some p.2 ∧ H7 p.1 = none := fun p hp => by
          obtain ⟨k1, k2, _⟩ := I7.pin p (List.mem_append_right _ (List.mem_append_right _ hp))
          exact ⟨k1, k2⟩
        have e0 := I9.env0
        have wk : Wok0 X.prog X.w X.base X.stack gp (s6.setGen gn .running) H7 := ⟨e0.bare, e0.bs, e0.bsz, e0.funs, e0.frf, e0.hok, pin⟩
        have fin := hw (s6.setGen gn .running) H7 wk ⟨σ7, I9, w7⟩ p7
        cases n with
        | zero => exact fin.elim
        | succ m =>
          refine ⟨m, Nat.lt_succ_self _, ys' ++ [x], σ7, H7, gs', I8, w7, ?_, ?_, fin⟩
          · have k1 := (pin (a, ao) hao).1
            have k2 := (hgp (a, ao) hao).1
            have k2 : s4.heap.get? a = some ao := k2
            rw [ho] at k2
            cases k2
            exact ⟨_, nm, qn, k1, hcls, hdat, hsl⟩
          · rw [gg]
            exact setGen_at (by rw [setGen_size] at sz4; exact sz4)
      cases f with
      | next => obtain ⟨σ7, H7, I7, n7⟩ := q6; exact again I7 n7
      | cont => obtain ⟨σ7, H7, I7, n7⟩ := q6; exact again I7 n7
      | brk => obtain ⟨σ7, H7, I7, q7⟩ := q6; exact ⟨σ7, H7, I7.unpinned, q7⟩
      | ret v => obtain ⟨x7, σ7, H7, I7, r7, q7⟩ := q6; exact ⟨x7, σ7, H7, I7.unpinned, r7, q7⟩
    · intro hsz
      obtain ⟨ys', H0, H4, ⟨σ0, J0, w0'⟩, os4, b4, un4, hok4, hQ⟩ := hf
      have J1 : Inv X pins σ0 H4 s4 := inv_far J0 hx hL hcell hpn un4 os4 hok4 b4
      have J2 : Inv X pins σ0 H4 (s4.setGen gn .finished) := inv_gens J1 rfl
      exact wpAny_execs_nil ⟨σ0, H4, J2.kept (h' := h') (t' := s4.toks) hk, hQ σ0 w0'⟩
  · refine ⟨[], σ, H1, .fresh c, I2, w0, hgen, hgs, rfl, ?_⟩
    have I3 : Inv X pins σ H1 (s1.setGen gn .running) := inv_gens I2 rfl
    refine wake X.A.in1 _ (s1.setGen gn .running) hr1 I1.ok.frames ?_ rfl rfl ⟨σ, I3, w0⟩
    have e0 := I3.env0
    exact ⟨e0.frames, e0.mod, e0.bs, e0.bsz, e0.funs, e0.frf, e0.hok, e0.bare⟩
end S
namespace S
open PySem PySem.Spec PyProof.Rows L2
/-- the turns of range(i, j, c) -/
structure RngS (i j c : Int) (k : Nat → Prop) : Prop where
  ex : ∃ n, RgC i j c n ∧ k n
theorem RngS.up {j c : Int} {k : Nat → Prop} (c1 : 1 ≤ c) (c2 : c < 1000000) (j0 : 0 ≤ j) (j1 : j < 2 ^ 60) (q : k ((j + c - 1) / c).toNat) : RngS 0 j c k := by
  refine ⟨_, ⟨by omega, by omega, ?_, ?_⟩, q⟩
  · unfold Builtin.Range.small
    have e := rangeSize_pos c1 j0
    have h1 : (j + c - 1) / c ≤ j + c - 1 := Int.ediv_le_self c (by omega)
    have h0 : 0 ≤ (j + c - 1) / c := Int.ediv_nonneg (by omega) (by omega)
    rw [e]
    simp only [Builtin.Range.rangeFitsLong, Bool.and_eq_true, Bool.or_eq_true, decide_eq_true_eq, beq_iff_eq]
    have c0 : c > 0 := by omega
    simp only [c0, if_true]
    refine ⟨by omega, .inr ?_⟩
    rw [Bool.and_eq_true, decide_eq_true_eq, decide_eq_true_eq]
    omega
  · rw [rangeSize_pos c1 j0]
    exact (Int.toNat_of_nonneg (Int.ediv_nonneg (by omega) (by omega))).symm
def iR3S (vs : List V) (H : Hp) (R : It → Hp → Prop) : Prop := match vs with
  | [.int i, .int j, .int c] => RngS i j c fun n => R (Itc i c n) H
  | _ => False
def iRngS (ta : TA) : TI := fun σ H R => ta σ H fun vs H1 => iR3S vs H1 R
theorem iR3S_eq {R : It → Hp → Prop} : (fun (vs : List V) (H : Hp) => iR3S vs H R) = fun vs H => ∃ (i j c : Int) (n : Nat), vs = [.int i, .int j, .int c] ∧ RgC i j c n ∧ R (Itc i c n) H := by
  funext vs H
  refine propext ⟨fun q => ?_, fun ⟨i, j, c, n, e, h, q⟩ => by subst e; exact ⟨n, h, q⟩⟩
  match vs, q with
  | [.int i, .int j, .int c], ⟨n, h, q⟩ => exact ⟨i, j, c, n, rfl, h, q⟩
theorem pi_rngS {X : Cx} {tg a b c : Expr} {ta : TA} {p pos : Pos} (hg : Gl X "range") (hm : X.mg "range" = none) (ha : PA X [a, b, c] ta)
    (hs : starEach [a, b, c] X.env = (false, eval a X.env) :: starEach [b, c] X.env := by rfl) (hpl : (backTo pos (starEach [b, c] X.env)).any (·.1) = false := by rfl) :
    PI X tg (.Call (.Name "range" p) [a, b, c] [] pos) (iRngS ta) := by
  have h := pi_range3 (tg := tg) (p := p) hg hm ha hs hpl
  refine ⟨fun pins s σ H R I q => h.run pins s σ H R I ?_⟩
  have q : ta σ H (fun vs H1 => iR3S vs H1 R) := q
  rw [iR3S_eq] at q
  exact q
theorem for_rngS {c : Int} {n : Nat} {g : TG} {tb : TS} {D : Ends} {σ : L2.St} {H : Hp} (Pv : Nat → L2.St → Hp → Prop) (h0 : Pv 0 σ H)
    (hs : ∀ (i : Nat) σ H, i < n → Pv i σ H → g (.int ((i : Nat) * c)) σ H fun σ2 H2 => tb { D with nx := Pv (i + 1), ct := Pv (i + 1), bk := D.nx } σ2 H2) (hd : ∀ σ H, Pv n σ H → D.nx σ H) :
    LoopR D g tb σ (Itc 0 c n) H := by
  refine L2.for_rangeC (lo := 0) Pv h0 (fun i σ H hi q => ?_) hd
  have z := hs i σ H hi q
  rw [Int.zero_add]; exact z
end S
namespace S
open PySem PySem.Spec PyProof.Rows L2
def top (i : Nat) : Stmt := PySem.Challenge.pw_slicedcolumns_k07_first_cut_joined.main.body.getD i (.Pass ⟨0, 0, 0, 0⟩)
abbrev s__law_draw : Stmt := top 18
abbrev s__law_wide : Stmt := top 19
abbrev s__law_size : Stmt := top 20
abbrev s__law_ends : Stmt := top 21
abbrev s_Bitmapdd_initdd : Stmt := inClass (top 16) 1
abbrev s__law_runs : Stmt := top 25
abbrev s__law_below : Stmt := top 26
abbrev s_Bitmap_rank : Stmt := inClass (top 16) 8
abbrev s_Bitmap_ones : Stmt := inClass (top 16) 7
abbrev s_Bitmap_runs : Stmt := inClass (top 16) 13
abbrev s_Bitmap_nth : Stmt := inClass (top 16) 9
abbrev s_Bitmap_span : Stmt := inClass (top 16) 4
abbrev s_next_end : Stmt := top 8
abbrev s_swept : Stmt := top 9
abbrev s_Bitmap_paired : Stmt := inClass (top 16) 14
abbrev s_Bitmapdd_anddd : Stmt := inClass (top 16) 16
abbrev s_Bitmap_first : Stmt := inClass (top 16) 10
abbrev s__law_is_number : Stmt := top 23
abbrev s__law_is_bitmap : Stmt := top 24
abbrev s__law_in : Stmt := top 22
abbrev s__law_is_first : Stmt := top 27
abbrev s__law_first_refused : Stmt := top 30
abbrev s_Bitmapdd_containsdd : Stmt := inClass (top 16) 15
abbrev s_Bitmap_cut : Stmt := inClass (top 16) 11
abbrev s__law_is_cut : Stmt := top 28
abbrev s_turned : Stmt := top 10
abbrev s_Bitmap_joined : Stmt := inClass (top 16) 12
abbrev s__law_is_joined : Stmt := top 29
abbrev s_Bitmapdd_eqdd : Stmt := inClass (top 16) 21
abbrev s__law_cut_refused : Stmt := top 31
abbrev s_law : Stmt := top 32
abbrev s_NoSuchRankdd_initdd : Stmt := inClass (top 6) 0
abbrev s_NoSuchRowdd_initdd : Stmt := inClass (top 5) 0
def hfn : List DfX := (⟨fun K => He.fAd K ("_law_draw", none), "_law_draw", "_law_draw", defArgs s__law_draw, defBody s__law_draw, defScope s__law_draw, [], [], []⟩ : DfX) :: (⟨fun K => He.fAd K ("_law_wide", none), "_law_wide", "_law_wide", defArgs s__law_wide, defBody s__law_wide, defScope s__law_wide, [], [], []⟩ : DfX) :: (⟨fun K => He.fAd K ("_law_size", none), "_law_size", "_law_size", defArgs s__law_size, defBody s__law_size, defScope s__law_size, [], [], []⟩ : DfX) :: (⟨fun K => He.fAd K ("_law_ends", none), "_law_ends", "_law_ends", defArgs s__law_ends, defBody s__law_ends, defScope s__law_ends, [], [], []⟩ : DfX) :: (⟨fun K => He.fAd K ("Bitmap", some "__init__"), "__init__", "Bitmap.__init__", defArgs s_Bitmapdd_initdd, defBody s_Bitmapdd_initdd, defScope s_Bitmapdd_initdd, [.adr (He.dflAt ("Bitmap", some "__init__") 0)], [], []⟩ : DfX) :: (⟨fun K => He.fAd K ("_law_runs", none), "_law_runs", "_law_runs", defArgs s__law_runs, defBody s__law_runs, defScope s__law_runs, [], [], []⟩ : DfX) :: (⟨fun K => He.fAd K ("_law_below", none), "_law_below", "_law_below", defArgs s__law_below, defBody s__law_below, defScope s__law_below, [], [], []⟩ : DfX) :: (⟨fun K => He.fAd K ("Bitmap", some "rank"), "rank", "Bitmap.rank", defArgs s_Bitmap_rank, defBody s_Bitmap_rank, defScope s_Bitmap_rank, [], [], []⟩ : DfX) :: (⟨fun K => uA K "Bitmap" "ones", "ones", "Bitmap.ones", defArgs s_Bitmap_ones, defBody s_Bitmap_ones, defScope s_Bitmap_ones, [], [], []⟩ : DfX) :: (⟨fun K => He.fAd K ("Bitmap", some "runs"), "runs", "Bitmap.runs", defArgs s_Bitmap_runs, defBody s_Bitmap_runs, defScope s_Bitmap_runs, [], [], []⟩ : DfX) :: (⟨fun K => He.fAd K ("Bitmap", some "nth"), "nth", "Bitmap.nth", defArgs s_Bitmap_nth, defBody s_Bitmap_nth, defScope s_Bitmap_nth, [], [], []⟩ : DfX) :: (⟨fun K => uA K "Bitmap" "span", "span", "Bitmap.span", defArgs s_Bitmap_span, defBody s_Bitmap_span, defScope s_Bitmap_span, [], [], []⟩ : DfX) :: (⟨fun K => He.fAd K ("next_end", none), "next_end", "next_end", defArgs s_next_end, defBody s_next_end, defScope s_next_end, [], [], []⟩ : DfX) :: (⟨fun K => He.fAd K ("swept", none), "swept", "swept", defArgs s_swept, defBody s_swept, defScope s_swept, [], [], []⟩ : DfX) :: (⟨fun K => He.fAd K ("Bitmap", some "paired"), "paired", "Bitmap.paired", defArgs s_Bitmap_paired, defBody s_Bitmap_paired, defScope s_Bitmap_paired, [], [], []⟩ : DfX) :: (⟨fun K => He.fAd K ("Bitmap", some "__and__"), "__and__", "Bitmap.__and__", defArgs s_Bitmapdd_anddd, defBody s_Bitmapdd_anddd, defScope s_Bitmapdd_anddd, [], [], []⟩ : DfX) :: (⟨fun K => He.fAd K ("Bitmap", some "first"), "first", "Bitmap.first", defArgs s_Bitmap_first, defBody s_Bitmap_first, defScope s_Bitmap_first, [], [], []⟩ : DfX) :: (⟨fun K => He.fAd K ("_law_is_number", none), "_law_is_number", "_law_is_number", defArgs s__law_is_number, defBody s__law_is_number, defScope s__law_is_number, [], [], []⟩ : DfX) :: (⟨fun K => He.fAd K ("_law_is_bitmap", none), "_law_is_bitmap", "_law_is_bitmap", defArgs s__law_is_bitmap, defBody s__law_is_bitmap, defScope s__law_is_bitmap, [], [], []⟩ : DfX) :: (⟨fun K => He.fAd K ("_law_in", none), "_law_in", "_law_in", defArgs s__law_in, defBody s__law_in, defScope s__law_in, [], [], []⟩ : DfX) :: (⟨fun K => He.fAd K ("_law_is_first", none), "_law_is_first", "_law_is_first", defArgs s__law_is_first, defBody s__law_is_first, defScope s__law_is_first, [], [], []⟩ : DfX) :: (⟨fun K => He.fAd K ("_law_first_refused", none), "_law_first_refused", "_law_first_refused", defArgs s__law_first_refused, defBody s__law_first_refused, defScope s__law_first_refused, [], [], []⟩ : DfX) :: (⟨fun K => He.fAd K ("Bitmap", some "__contains__"), "__contains__", "Bitmap.__contains__", defArgs s_Bitmapdd_containsdd, defBody s_Bitmapdd_containsdd, defScope s_Bitmapdd_containsdd, [], [], []⟩ : DfX) :: (⟨fun K => He.fAd K ("Bitmap", some "cut"), "cut", "Bitmap.cut", defArgs s_Bitmap_cut, defBody s_Bitmap_cut, defScope s_Bitmap_cut, [], [], []⟩ : DfX) :: (⟨fun K => He.fAd K ("_law_is_cut", none), "_law_is_cut", "_law_is_cut", defArgs s__law_is_cut, defBody s__law_is_cut, defScope s__law_is_cut, [], [], []⟩ : DfX) :: (⟨fun K => He.fAd K ("turned", none), "turned", "turned", defArgs s_turned, defBody s_turned, defScope s_turned, [], [], []⟩ : DfX) :: (⟨fun K => He.fAd K ("Bitmap", some "joined"), "joined", "Bitmap.joined", defArgs s_Bitmap_joined, defBody s_Bitmap_joined, defScope s_Bitmap_joined, [], [], []⟩ : DfX) :: (⟨fun K => He.fAd K ("_law_is_joined", none), "_law_is_joined", "_law_is_joined", defArgs s__law_is_joined, defBody s__law_is_joined, defScope s__law_is_joined, [], [], []⟩ : DfX) :: (⟨fun K => He.fAd K ("Bitmap", some "__eq__"), "__eq__", "Bitmap.__eq__", defArgs s_Bitmapdd_eqdd, defBody s_Bitmapdd_eqdd, defScope s_Bitmapdd_eqdd, [], [], []⟩ : DfX) :: (⟨fun K => He.fAd K ("_law_cut_refused", none), "_law_cut_refused", "_law_cut_refused", defArgs s__law_cut_refused, defBody s__law_cut_refused, defScope s__law_cut_refused, [], [], []⟩ : DfX) :: (⟨fun K => He.fAd K ("law", none), "law", "law", defArgs s_law, defBody s_law, defScope s_law, [], [], []⟩ : DfX) :: (⟨fun K => He.fAd K ("NoSuchRank", some "__init__"), "__init__", "NoSuchRank.__init__", defArgs s_NoSuchRankdd_initdd, defBody s_NoSuchRankdd_initdd, defScope s_NoSuchRankdd_initdd, [], [], ["__class__"]⟩ : DfX) :: (⟨fun K => He.fAd K ("NoSuchRow", some "__init__"), "__init__", "NoSuchRow.__init__", defArgs s_NoSuchRowdd_initdd, defBody s_NoSuchRowdd_initdd, defScope s_NoSuchRowdd_initdd, [], [], ["__class__"]⟩ : DfX) :: []
abbrev hP : Program := PySem.Challenge.rw_slicedcolumns_k07_first_cut_joined.prog
def hfx : List (Frag → Bool) := (cfB "Bitmap" ["ends", "size"]) :: (fun K => empB K (V.ref (He.dflAt ("Bitmap", some "__init__") 0 K))) :: (propB "Bitmap" "ones") :: (rsB "BadBitmap") :: (rsB "SizesDiffer") :: (statB "Bitmap" "span") :: (fun K => He.tupB K "AND" [.int 0, .int 0, .int 0, .int 1]) :: (exfB "BadBitmap" ["SliceError"]) :: (exfB "NoSuchRank" ["SliceError"]) :: (exfB "NoSuchRow" ["SliceError"]) :: (exfB "SizesDiffer" ["SliceError"]) :: (exfB "SliceError" []) :: (xffB "NoSuchRank" "number") :: (xiB hP "NoSuchRank" "number") :: (xiB hP "NoSuchRow" "row") :: []
def hfa : List He.Fa := (.glo "AND") :: (.glo "BadBitmap") :: (.glo "Bitmap") :: (.glo "NoSuchRank") :: (.glo "NoSuchRow") :: (.glo "SizesDiffer") :: (.glo "SliceError") :: (.glo "_law_below") :: (.glo "_law_cut_refused") :: (.glo "_law_draw") :: (.glo "_law_ends") :: (.glo "_law_first_refused") :: (.glo "_law_in") :: (.glo "_law_is_bitmap") :: (.glo "_law_is_cut") :: (.glo "_law_is_first") :: (.glo "_law_is_joined") :: (.glo "_law_is_number") :: (.glo "_law_runs") :: (.glo "_law_size") :: (.glo "_law_wide") :: (.glo "law") :: (.glo "next_end") :: (.glo "swept") :: (.glo "turned") :: (.free "abs") :: (.free "bool") :: (.free "enumerate") :: (.free "int") :: (.free "isinstance") :: (.free "len") :: (.free "list") :: (.free "min") :: (.free "range") :: (.free "super") :: (.free "tuple") :: (.mkr "Bitmap") :: (.meth "Bitmap" "cut") :: (.meth "Bitmap" "first") :: (.meth "Bitmap" "joined") :: (.meth "Bitmap" "nth") :: (.meth "Bitmap" "paired") :: (.meth "Bitmap" "rank") :: (.meth "Bitmap" "runs") :: (.meth "Bitmap" "__and__") :: (.meth "Bitmap" "__contains__") :: (.meth "Bitmap" "__eq__") :: []
abbrev hR : PySem.W.OpenRow := PySem.W.OpenLaw.row PySem.Challenge.rw_slicedcolumns_k07_first_cut_joined
def hloose : List Str := "_wall" :: "SliceError" :: "BadBitmap" :: "SizesDiffer" :: "NoSuchRow" :: "NoSuchRank" :: "next_end" :: "swept" :: "turned" :: "AND" :: "OR" :: "XOR" :: "LESS" :: "Bitmap" :: "_law_draw" :: "_law_wide" :: "_law_size" :: "_law_ends" :: "_law_in" :: "_law_is_number" :: "_law_is_bitmap" :: "_law_runs" :: "_law_below" :: "_law_is_first" :: "_law_is_cut" :: "_law_is_joined" :: "_law_first_refused" :: "_law_cut_refused" :: []
def hnm : List Str := "SliceError" :: "BadBitmap" :: "SizesDiffer" :: "NoSuchRow" :: "NoSuchRank" :: "next_end" :: "swept" :: "turned" :: "AND" :: "Bitmap" :: "_law_draw" :: "_law_wide" :: "_law_size" :: "_law_ends" :: "_law_in" :: "_law_is_number" :: "_law_is_bitmap" :: "_law_runs" :: "_law_below" :: "_law_is_first" :: "_law_is_cut" :: "_law_is_joined" :: "_law_first_refused" :: "_law_cut_refused" :: "law" :: []
abbrev hhk : PySem.W.Hook := hookY hnm hfa hfx hfn
def hob (s : PySem.W.SharedT) : AlX := obsYG hnm hfa hfx hfn (HandSHeadRun.getT s)
theorem hob_eq (s : PySem.W.SharedT) : hob s = hhk.obs s.abs := obsYG_eq (HandSHeadRun.getT_eq s)
section
open HandSHeadRun PySem.W
theorem hq1 (w : World) (os : OsState) : (HandSHeadRun.endF (HandSHeadRun.stepQ (HandSHeadRun.denQ HandSHeadRun.tabQ) hR.prog w) 16000 hR.prog w os).map (fun s => (HandSHeadRun.looksF hR.prog (boot_heap w.params) s.abs, HandSHeadRun.seenQ (PySem.W.view hR.prog [32]) hloose (importedModules hR.prog.main.body) (fun s => xlAt (PySem.W.view hR.prog [32]) [] s && recOk hR.toRowW.records s) s.abs)) = some (true, openGood (PySem.W.view hR.prog [32]) hloose) := by kernel_rfl
theorem hq2 (w : World) (os : OsState) : (HandSHeadRun.endF (HandSHeadRun.stepQ (HandSHeadRun.denQ HandSHeadRun.tabQ) hR.prog w) 16000 hR.prog w os).map (fun s => hob s) = some (hhk.val w) := by kernel_rfl
end
theorem hrun (w : World) : HandSHeadRun.RunEq hR (PySem.W.view hR.prog [32]) hhk hob 16000 hloose w := by
  intro os
  exact run_split2 (hq1 w os) (hq2 w os)
end S
/-! ## short tactics (local rows) -/
open PySem PySem.Spec PyProof.Rows L2 S in
local macro_rules | `(tactic| walk_at "ne") => `(tactic| first | assumption | (apply Ne.symm; assumption) | (apply ne_of_none <;> assumption))
open PySem PySem.Spec PyProof.Rows L2 S in
local macro_rules | `(tactic| walk_at "hp") => `(tactic| first | assumption | exact upd_same | (refine' up_of ?n1 ?h1; (case n1 => walk_at "ne"); (case h1 => walk_at "hp")))
open PySem PySem.Spec PyProof.Rows L2 S in
local macro_rules | `(tactic| walk_at "sx") => `(tactic| first | assumption | exact SameX.refl _ _ | (refine' SameX.put ?h1; (case h1 => walk_at "sx")))
open PySem PySem.Spec PyProof.Rows L2 S in
local macro_rules | `(tactic| walk_at "sl") => `(tactic| first | assumption | (refine' appS ?h1 ?e1; (case h1 => assumption); (case e1 => walk_at "sx")) | (refine' sl_upd ?h1 ?n1; (case n1 => walk_at "ne"); (case h1 => walk_at "sl")))
open PySem PySem.Spec PyProof.Rows L2 S in
local macro_rules | `(tactic| walk_at "st") => `(tactic| first | assumption | (refine' st_upd ?h1 ?n1; (case n1 => walk_at "ne"); (case h1 => walk_at "st")))
open PySem PySem.Spec PyProof.Rows L2 S in
local macro_rules | `(tactic| walk_at "ar") => `(tactic| first | omega | decide | (exact ⟨by decide, by decide⟩) | (exact ⟨by decide, by decide, by decide⟩) | (simp only [CDiv, CPow, CMul]; omega) | (exact .inl (by omega)) | (exact .inr (by omega)) | (simp only [sizeLine_eq, List.length_map, List.length_cons, List.length_nil, List.length_append, List.length_reverse]; omega))
open PySem PySem.Spec PyProof.Rows L2 S in
local macro_rules | `(tactic| walk_at "rd") => `(tactic| first
  | (refine' Rd.l ?h1 ?h2; (case h1 => walk_at "hp"))
  | (refine' Rd.sl ?h1 ?h2; (case h1 => walk_at "sl"))
  | (refine' Rd.st ?h1 ?h2; (case h1 => walk_at "st"))
  | (refine' Rd.sa ?h1 ?h2; (case h1 => assumption))
  | (refine' S.At.of ?h1 ?h2; (case h1 => (first | rfl | assumption)))
  | (refine' Ls.of ?h1 ?h2; (case h1 => walk_at "hp"))
  | (refine' IsL.of ?h1 ?h2; (case h1 => walk_at "hp"))
  | (refine' Pl.of ?h1 ?h2; (case h1 => rfl))
  | (refine' Need.mk ?h1 ?h2; (case h1 => walk_at "ar")))
open PySem PySem.Spec PyProof.Rows L2 S in
local macro_rules | `(tactic| walk_at "go") => `(tactic| (repeat walk_at "rd"))
open PySem PySem.Spec PyProof.Rows L2 S in
local macro_rules | `(tactic| walk_at "gx") => `(tactic| (repeat (first | walk_at "rd" | refine' Stop.mk ?_)))
/-! ## the laws' own harness: draws -/
namespace S
open PySem PySem.Spec PyProof.Rows L2
theorem at_ints {ns : List Int} {i : Int} (h0 : 0 ≤ i) (h1 : i < ns.length) : ∃ x, atI (ns.map V.int) i = some (.int x) := by
  obtain ⟨j, rfl⟩ := Int.eq_ofNat_of_zero_le h0
  have hl : j < ns.length := by omega
  refine ⟨ns[j], atI_nat ?_⟩
  rw [List.getElem?_map, List.getElem?_eq_getElem hl]
  rfl
/-- the state of the draws: place, left, number, kind -/
def DrawSt (l : List V) : Prop := ∃ a b n k : Int, l = [.int a, .int b, .int n, .int k] ∧ 0 ≤ a ∧ 0 ≤ n ∧ (b = 0 ∨ k = 2 ∨ n < 10 ^ 18)
/-- the script at a: the calls leave it -/
def ScrAt (K : Frag) (H : Hp) (a st : Addr) (ns : List Int) : Prop := (a ≠ st ∧ SqL K H a (ns.map V.int)) ∨ ∀ H', SqL K H' a (ns.map V.int)
/-- the script at a, the state at st -/
structure Ctx (K : Frag) (H : Hp) (a st : Addr) : Prop where
  scr : ∃ ns : List Int, ScrAt K H a st ns
  stt : ∃ l, H st = some (.lst l) ∧ DrawSt l
theorem ScrAt.sl {K : Frag} {H : Hp} {a st : Addr} {ns : List Int} (h : ScrAt K H a st ns) : SqL K H a (ns.map V.int) := by
  rcases h with ⟨_, h⟩ | h
  · exact h
  · exact h H
theorem ScrAt.x {K : Frag} {H H' : Hp} {a st : Addr} {ns : List Int} (h : ScrAt K H a st ns) (e : SameX st H H') : ScrAt K H' a st ns := by
  rcases h with ⟨n, h⟩ | h
  · exact .inl ⟨n, e.seq h n⟩
  · exact .inr h
theorem ScrAt.same {K : Frag} {H H' : Hp} {a st : Addr} {ns : List Int} (h : ScrAt K H a st ns) (e : Same H H') : ScrAt K H' a st ns := h.x (Same.x e)
theorem Ctx.same {K : Frag} {H H' : Hp} {a st : Addr} (c : Ctx K H a st) (e : Same H H') : Ctx K H' a st := by
  obtain ⟨⟨ns, h⟩, l, hl, d⟩ := c
  exact ⟨⟨ns, h.same e⟩, l, e _ _ hl, d⟩
def sp__law_draw (K : Frag) : Sp := fun vs H Q _ => ∃ (a st : Addr) (base : Int), vs = [.ref a, .ref st, .int base] ∧ Ctx K H a st ∧ 0 < base ∧
  ∀ (r : Int) (H' : Hp), 0 ≤ r → r < base → Ctx K H' a st → SameX st H H' → Q (.int r) H'
/-- a list made behind H0 may change -/
theorem SameX.mut {st : Addr} {H0 H1 : Hp} {p : Addr} {o : HO} (e : SameX st H0 H1) (n : H0 p = none) : SameX st H0 (L2.upd H1 p o) := fun b u h k => by
  rw [upd_ne (ne_of_none h n)]
  exact e b u h k
theorem Same.mut {H0 H1 : Hp} {p : Addr} {o : HO} (e : Same H0 H1) (n : H0 p = none) : Same H0 (upd H1 p o) := fun b u h => by
  rw [upd_ne (ne_of_none h n)]
  exact e b u h
theorem Ctx.mut {K : Frag} {H0 H1 : Hp} {a st p : Addr} {o : HO} (c : Ctx K H1 a st) (e : Ctx K H0 a st) (n : H0 p = none) : Ctx K (L2.upd H1 p o) a st := by
  obtain ⟨⟨ns, h⟩, l, hl, d⟩ := c
  obtain ⟨⟨ns0, h0⟩, l0, hl0, d0⟩ := e
  have n1 : st ≠ p := ne_of_none hl0 n
  refine ⟨?_, l, by rw [upd_ne n1]; exact hl, d⟩
  rcases h with ⟨na, h⟩ | h
  · by_cases e : a = p
    · subst e
      rcases h0.sl with (h0 | ⟨_, h0⟩) | h0
      · rw [n] at h0; cases h0
      · rw [n] at h0; cases h0
      · exact ⟨ns0, .inr fun H' => .inr h0⟩
    · exact ⟨ns, .inl ⟨na, sl_upd h e⟩⟩
  · exact ⟨ns, .inr h⟩
/-- ends ascending within a size -/
def Ends (size : Int) (ns : List Int) : Prop := ns.Pairwise (· < ·) ∧ ∀ x ∈ ns, 0 ≤ x ∧ x < size
theorem Ends.snoc {size at_ : Int} {ns : List Int} (h : Ends size ns) (hb : ∀ x ∈ ns, x < at_) (h0 : 0 ≤ at_) (h1 : at_ < size) : Ends size (ns ++ [at_]) := by
  refine ⟨List.pairwise_append.mpr ⟨h.1, List.pairwise_singleton _ _, fun x hx y hy => ?_⟩, fun x hx => ?_⟩
  · rw [List.mem_singleton.mp hy]
    exact hb x hx
  · rcases List.mem_append.mp hx with hx | hx
    · exact h.2 x hx
    · rw [List.mem_singleton.mp hx]
      exact ⟨h0, h1⟩
end S
-- deps: D0
/-! ## data compared, isinstance -/
namespace S
open PySem PySem.Spec PyProof.Rows L2
theorem dp_ints {K : Frag} {H : Hp} : ∀ ns : List Int, DpAll K H (ns.map V.int) (ns.map PyData.int)
  | [] => .nil
  | n :: r => .cons (.int n) (dp_ints r)
theorem can_ints : ∀ ns : List Int, PyData.canLayAll0 (ns.map PyData.int) = true
  | [] => rfl
  | n :: r => by
    show (PyData.canLay0 (.int n) && PyData.canLayAll0 (r.map PyData.int)) = true
    rw [can_ints r]; rfl
theorem dep_ints : ∀ ns : List Int, PyData.depthAll (ns.map PyData.int) = 0
  | [] => rfl
  | n :: r => by
    show max (PyData.depth (.int n)) (PyData.depthAll (r.map PyData.int)) = 0
    rw [dep_ints r]; rfl
theorem shp_ints (ns : List Int) : SeqAt.shaped (.list (ns.map PyData.int)) = true := by
  unfold SeqAt.shaped
  have e1 : PyData.canLay0 (.list (ns.map PyData.int)) = true := can_ints ns
  have e2 : PyData.depth (.list (ns.map PyData.int)) = 1 := by show PyData.depthAll _ + 1 = 1; rw [dep_ints]
  rw [e1, e2]; rfl
theorem eqv_ints : ∀ xs ys : List Int, PyData.eqvAll (xs.map PyData.int) (ys.map PyData.int) = decide (xs = ys)
  | [], [] => rfl
  | [], _ :: _ => by simp [PyData.eqvAll]
  | _ :: _, [] => by simp [PyData.eqvAll]
  | x :: xs, y :: ys => by
    show (PyData.eqv (.int x) (.int y) && PyData.eqvAll (xs.map PyData.int) (ys.map PyData.int)) = _
    rw [eqv_ints xs ys]
    show ((x == y) && decide (xs = ys)) = _
    by_cases h : x = y <;> by_cases h2 : xs = ys <;> simp [h, h2]
theorem eqd_ll {K : Frag} {H : Hp} {a b : Addr} {xs ys : List Int} {k : Bool → Prop} (h : SqL K H a (xs.map V.int)) (h2 : SqL K H b (ys.map V.int)) (q : k (decide (xs = ys))) : EqD K H (.ref a) (.ref b) k :=
  ⟨_, _, .lst h (dp_ints xs), .lst h2 (dp_ints ys), shp_ints xs, shp_ints ys, by
    have e : PyData.eqv (.list (xs.map PyData.int)) (.list (ys.map PyData.int)) = decide (xs = ys) := eqv_ints xs ys
    rw [e]; exact q⟩
theorem isi_tup {K : Frag} {H : Hp} {p : Addr} {xs : List V} {k : Bool → Prop} (h : SqT K H p xs) (q : k true) : Isi K H (.ref p) (.type "tuple") k := by
  rcases h with (h | ⟨o, h⟩) | ⟨o, its, n, h1, h2, _⟩
  · exact Isi.of (.base (.tup h)) rfl q
  · exact Isi.of (.fTuple h) rfl q
  · exact Isi.of (.kTuple h1 h2) rfl q
theorem isi_lst {K : Frag} {H : Hp} {p : Addr} {xs : List V} {k : Bool → Prop} (h : H p = some (.lst xs)) (q : k true) : Isi K H (.ref p) (.type "list") k := Isi.of (.base (.lst h)) rfl q
theorem map_filter_ints {ns : List Int} (pr : V → Bool) (f : V → V) (p2 : Int → Bool) (f2 : Int → Int) (hp : ∀ i, pr (.int i) = p2 i) (hf : ∀ i, f (.int i) = .int (f2 i)) : ((ns.map V.int).filter pr).map f = ((ns.filter p2).map f2).map V.int := by
  induction ns with
  | nil => rfl
  | cons x r ih =>
    simp only [List.map_cons, List.filter_cons, hp]
    by_cases h : p2 x = true
    · simp only [h, if_true, List.map_cons, hf, ih]
    · rw [if_neg h, if_neg h]; exact ih
theorem Ends.drop {size : Int} {ns : List Int} (h : Ends size ns) (k : Nat) : Ends size (ns.drop k) := ⟨h.1.sublist (List.drop_sublist k ns), fun x hx => h.2 x (List.mem_of_mem_drop hx)⟩
theorem Ends.filter {size : Int} {ns : List Int} (h : Ends size ns) (p : Int → Bool) : Ends size (ns.filter p) := ⟨h.1.filter p, fun x hx => h.2 x ((List.mem_filter.mp hx).1)⟩
theorem Ends.up {size : Int} {ns : List Int} (h : Ends size ns) : Ends size ((ns.filter fun x => decide (x + 1 < size)).map fun x => x + 1) := by
  refine ⟨List.pairwise_map.mpr ((h.1.filter _).imp fun {a b} hab => by omega), fun x hx => ?_⟩
  obtain ⟨y, hy, rfl⟩ := List.mem_map.mp hx
  have h1 := (List.mem_filter.mp hy)
  have h2 := h.2 y h1.1
  have h3 : y + 1 < size := of_decide_eq_true h1.2
  omega
theorem cut_from {ns : List Int} {d : Int} (h : 0 ≤ d) : cutV (ns.map V.int) (some d) none = (ns.drop d.toNat).map V.int := by
  obtain ⟨k, rfl⟩ := Int.eq_ofNat_of_zero_le h
  unfold cutV
  rw [HT.sIx_nat, HT.sIx_none, List.length_map, Int.toNat_natCast, ← List.map_drop]
  by_cases hk : k ≤ ns.length
  · rw [Nat.min_eq_left hk, List.take_of_length_le]
    simp
  · rw [Nat.min_eq_right (by omega), List.drop_eq_nil_of_le (by omega : ns.length ≤ k)]
    simp
def sp_law (K : Frag) : Sp := fun vs H Q _ => ∃ (a : Addr) (ns : List Int), vs = [.ref a] ∧ SqL K H a (ns.map V.int) ∧ ∀ H', Q (.bl true) H'
theorem ctx0 {K : Frag} {H : Hp} {a st : Addr} {ns : List Int} (h : SqL K H a (ns.map V.int)) (hs : H st = none) (l : List V) (d : DrawSt l) : Ctx K (upd H st (.lst l)) a st := by
  refine ⟨⟨ns, ?_⟩, _, upd_same, d⟩
  rcases h with h | h
  · have ne : a ≠ st := by
      rintro rfl
      rcases h with h | ⟨_, h⟩
      · rw [hs] at h; cases h
      · rw [hs] at h; cases h
    exact .inl ⟨ne, sl_upd (.inl h) ne⟩
  · exact .inr fun H' => .inr h
theorem ctx_st {K : Frag} {H : Hp} {a st : Addr} (c : Ctx K H a st) : ∃ l, H st = some (.lst l) := let ⟨_, l, h, _⟩ := c; ⟨l, h⟩
theorem ctx_ne {K : Frag} {H : Hp} {a st p : Addr} (c : Ctx K H a st) (n : H p = none) : p ≠ st := by
  obtain ⟨l, h⟩ := ctx_st c
  exact (ne_of_none h n).symm
theorem pw_lt {ns : List Int} (h : ns.Pairwise (· < ·)) {i j : Nat} {x y : Int} (hij : i < j) (hx : ns[i]? = some x) (hy : ns[j]? = some y) : x < y := by
  obtain ⟨h1, rfl⟩ := List.getElem?_eq_some_iff.mp hx
  obtain ⟨h2, rfl⟩ := List.getElem?_eq_some_iff.mp hy
  exact List.pairwise_iff_getElem.mp h i j h1 h2 hij
end S
-- deps: D0 D1
/-! ## a bitmap on the heap -/
namespace S
open PySem PySem.Spec PyProof.Rows L2
theorem Same.slt {H H' : Hp} {a C dx : Addr} {vs : List (Option V)} (e : Same H H') (h : SlX.Slt H a C dx vs) : SlX.Slt H' a C dx vs := by
  rcases h with ⟨h, z⟩ | ⟨h, z⟩
  · exact .inl ⟨e _ _ h, z⟩
  · exact .inr ⟨e _ _ h, e _ _ z⟩
theorem slO_lst {a C dx : Addr} {vs : List (Option V)} {xs : List V} : SlX.SlO a C dx vs ≠ .lst xs := fun z => by unfold SlX.SlO at z; cases z
theorem slO_tup {a C dx : Addr} {vs : List (Option V)} {xs : List V} : SlX.SlO a C dx vs ≠ .tup xs := fun z => by unfold SlX.SlO at z; cases z
theorem slO_frz {a C dx : Addr} {vs : List (Option V)} {o : Obj} {u : HO} : SlX.SlO a C dx vs ≠ .frz o u := fun z => by unfold SlX.SlO at z; cases z
theorem SameX.slt {st : Addr} {H H' : Hp} {a C dx : Addr} {vs : List (Option V)} {l : List V} (e : SameX st H H') (hst : H st = some (.lst l)) (h : SlX.Slt H a C dx vs) : SlX.Slt H' a C dx vs := by
  rcases h with ⟨h, z⟩ | ⟨h, z⟩
  · exact .inl ⟨e _ _ h (ne_of h hst (fun y => by cases y)), z⟩
  · exact .inr ⟨e _ _ h (ne_of h hst slO_lst), e _ _ z (ne_of z hst (fun y => by cases y))⟩
/-- all but two objects stays -/
def SameO (x y : Addr) (H H' : Hp) : Prop := ∀ b o, H b = some o → b ≠ x → b ≠ y → H' b = some o
theorem Same.o {x y : Addr} {H H' : Hp} (e : Same H H') : SameO x y H H' := fun b o h _ _ => e b o h
theorem SameO.trans {x y : Addr} {H H1 H2 : Hp} (a : SameO x y H H1) (b : SameO x y H1 H2) : SameO x y H H2 := fun c o h n m => b c o (a c o h n m) n m
theorem SameO.slH {x y C : Addr} {H : Hp} {vs : List (Option V)} : SameO x y H (SlX.slH H x C y vs) := fun b o h n m => by rw [SlX.slH_ne n m]; exact h
theorem SameO.tup {K : Frag} {x y a C : Addr} {H H' : Hp} {xs : List V} {vs : List (Option V)} (e : SameO x y H H') (hx : SlX.Slt H x C y vs) (hy : ∀ o, H y = some o → (∀ ys, o ≠ .tup ys) ∧ ∀ u w, o ≠ .frz u w) (h : SqT K H a xs) : SqT K H' a xs := by
  have nx : ∀ o, H a = some o → (o = .tup xs ∨ ∃ u, o = .frz u (.tup xs)) → a ≠ x ∧ a ≠ y := fun o ho q => by
    refine ⟨fun z => ?_, fun z => ?_⟩
    · subst z
      rcases hx with ⟨h1, _⟩ | ⟨h1, _⟩
      · rw [ho] at h1
        rcases q with q | ⟨u, q⟩ <;> · rw [q] at h1; cases h1
      · rw [ho] at h1
        have h2 := Option.some.inj h1
        rcases q with q | ⟨u, q⟩
        · exact slO_tup (h2.symm.trans q)
        · exact slO_frz (h2.symm.trans q)
    · subst z
      rcases q with q | ⟨u, q⟩
      · exact (hy _ ho).1 _ q
      · exact (hy _ ho).2 _ _ q
  rcases h with (h | ⟨o, h⟩) | h
  · obtain ⟨n, m⟩ := nx _ h (.inl rfl)
    exact .inl (.inl (e _ _ h n m))
  · obtain ⟨n, m⟩ := nx _ h (.inr ⟨_, rfl⟩)
    exact .inl (.inr ⟨o, e _ _ h n m⟩)
  · exact .inr h
abbrev BmF (K : Frag) : Prop := CF K "Bitmap" ["ends", "size"]
/-- a bitmap: its size, its ends -/
def Bm (K : Frag) (H : Hp) (a : Addr) (n : Int) (es : List Int) : Prop := BmF K ∧ 0 ≤ n ∧ Ends n es ∧ ∃ dx p, SlX.Slt H a (He.ga K "Bitmap") dx [some (.ref p), some (.int n)] ∧ SqT K H p (es.map V.int)
theorem Bm.same {K : Frag} {H H' : Hp} {a : Addr} {n : Int} {es : List Int} (h : Bm K H a n es) (e : Same H H') : Bm K H' a n es := by
  obtain ⟨c, h0, hE, dx, p, h1, h2⟩ := h
  exact ⟨c, h0, hE, dx, p, Same.slt e h1, Same.tup e h2⟩
theorem Bm.x {K : Frag} {st : Addr} {H H' : Hp} {a : Addr} {n : Int} {es : List Int} {l : List V} (h : Bm K H a n es) (e : SameX st H H') (hst : H st = some (.lst l)) : Bm K H' a n es := by
  obtain ⟨c, h0, hE, dx, p, h1, h2⟩ := h
  exact ⟨c, h0, hE, dx, p, e.slt hst h1, e.tup h2 hst⟩
end S
namespace S
open PySem PySem.Spec PyProof.Rows L2
def t__law_in_b1 (K : Frag) (E : XK) : TS :=
    dIfS (dCmpT oLe (dVar 3) (dVar 1)) (tAsg (dNotV (dVar 2)) (gName 2)) (tNext)
def t__law_in_2 (K : Frag) (E : XK) : TS :=
    tRet (dVar 2)
def t__law_in_1 (K : Frag) (E : XK) : TS :=
    tSeq (dFor (iSeq K (dVar 0)) (gName 3) (t__law_in_b1 K E))
    (stop (t__law_in_2 K E))
def t__law_in (K : Frag) (E : XK) : TS :=
    tSeq (tAsg (tC (.bl false)) (gName 2))
    (stop (t__law_in_1 K E))
end S
-- fn: _law_in
-- law: k03
-- deps: D0
namespace S
open PySem PySem.Spec PyProof.Rows L2
/-- an odd number of the ends is at most the row -/
def inB (ends : List Int) (row : Int) : Bool := ends.foldl (fun b e => if e ≤ row then !b else b) false
def sp__law_in (K : Frag) : Sp := fun vs H Q _ => ∃ (p : Addr) (ns : List Int) (row : Int), vs = [.ref p, .int row] ∧ SqA K H p (ns.map V.int) ∧ Q (.bl (inB ns row)) H
theorem foldl_take {α β : Type} (f : β → α → β) (b : β) {xs : List α} {i : Nat} {x : α} (h : xs[i]? = some x) : (xs.take (i + 1)).foldl f b = f ((xs.take i).foldl f b) x := by
  obtain ⟨hi, e⟩ := List.getElem?_eq_some_iff.mp h
  rw [List.take_succ, List.foldl_append, h]
  rfl
theorem map_get {α : Type} {g : α → V} {ns : List α} {i : Nat} {x : V} (h : (ns.map g)[i]? = some x) : ∃ y, ns[i]? = some y ∧ x = g y := by
  rw [List.getElem?_map] at h
  cases e : ns[i]? with
  | none => rw [e] at h; cases h
  | some y => rw [e] at h; exact ⟨y, rfl, (Option.some.inj h).symm⟩
theorem pure__law_in {K : Frag} (vs : List V) (H : Hp) (Q : VK) (E : XK) (h : sp__law_in K vs H Q E) : t__law_in K E { nx := fun _ H' => Q .non H', rt := Q } (start ["_law_ends_here", "_law_row", "_law_inside", "_law_end"] vs) H := by
  obtain ⟨p, ns, row, rfl, hp, q⟩ := h
  walk_at "gx"
  refine for_seq (fun i σ H1 => H1 = H ∧ ∃ (k : Option V), σ = [some (.ref p), some (.int row), some (.bl (inB (ns.take i) row)), k]) hp ⟨rfl, none, rfl⟩ (fun i σ H1 _ z => by rw [z.1]; exact Same.stay (Same.refl _)) ?_ ?_
  · rintro i x σ H1 hx ⟨rfl, k, rfl⟩
    obtain ⟨e, he, rfl⟩ := map_get hx
    have st : inB (ns.take (i + 1)) row = if e ≤ row then !(inB (ns.take i) row) else inB (ns.take i) row := foldl_take _ _ he
    walk_at "gx"
    refine ifd (fun hl => ?_) (fun hl => ?_)
    · walk_at "gx"
      rw [if_pos hl] at st
      exact ⟨rfl, _, by rw [st]; rfl⟩
    · rw [if_neg hl] at st
      exact ⟨rfl, _, by rw [st]; rfl⟩
  · rintro σ H1 ⟨rfl, k, rfl⟩
    rw [List.length_map, List.take_length]
    exact ⟨q⟩
theorem inB_cons (x : Int) (l : List Int) (row : Int) : inB (x :: l) row = if x ≤ row then !(inB l row) else inB l row := by
  have key : ∀ (l : List Int) (b : Bool), l.foldl (fun b e => if e ≤ row then !b else b) (!b) = !(l.foldl (fun b e => if e ≤ row then !b else b) b) := by
    intro l
    induction l with
    | nil => intro b; rfl
    | cons y l ih =>
      intro b
      simp only [List.foldl_cons]
      by_cases h : y ≤ row
      · rw [if_pos h, if_pos h, ih]
      · rw [if_neg h, if_neg h, ih]
  unfold inB
  simp only [List.foldl_cons]
  by_cases h : x ≤ row
  · rw [if_pos h, if_pos h, key]
  · rw [if_neg h, if_neg h]
end S
namespace S
open PySem PySem.Spec PyProof.Rows L2
def t_Bitmap_runs_b1 (K : Frag) (E : XK) : TGn :=
    tGIf (dCmpT oIsN (dVar 1) (tC .non)) (tPlain (tAsg (dVar 2) (gName 1))) (tGThen (tGYield (dTup K (tCons (dVar 1) (tCons (dVar 2) (tNil)))))
    (tPlain (tAsg (tC .non) (gName 1))))
def t_Bitmap_runs_2 (K : Frag) (E : XK) : TGn :=
    tGIf (dCmpT oNotN (dVar 1) (tC .non)) (tGYield (dTup K (tCons (dVar 1) (tCons (dAt K "size" (dVar 0)) (tNil))))) (tG0)
def t_Bitmap_runs_1 (K : Frag) (E : XK) : TGn :=
    tGThen (dGFor (iSeq K (dAt K "ends" (dVar 0))) (gName 2) (t_Bitmap_runs_b1 K E))
    (gstop (t_Bitmap_runs_2 K E))
def t_Bitmap_runs (K : Frag) (E : XK) : TGn :=
    tGThen (tPlain (tAsg (tC .non) (gName 1)))
    (gstop (t_Bitmap_runs_1 K E))
end S
-- fn: Bitmap.runs
-- law: k08
-- deps: Bm _law_in
namespace S
open PySem PySem.Spec PyProof.Rows L2
/-- pairs of numbers on the heap -/
def PrsI (K : Frag) (H : Hp) (ys : List V) (R : List (Int × Int)) : Prop := Paired (fun (r : Int × Int) y => ∃ a, y = .ref a ∧ SqT K H a [.int r.1, .int r.2]) R ys
theorem PrsI.same {K : Frag} {H H' : Hp} {ys : List V} {R : List (Int × Int)} (h : PrsI K H ys R) (e : Same H H') : PrsI K H' ys R := Paired.mapP h fun _ _ ⟨a, h1, h2⟩ => ⟨a, h1, Same.tup e h2⟩
def runsP (n : Int) : List Int → List (Int × Int)
  | [] => []
  | [a] => [(a, n)]
  | a :: b :: r => (a, b) :: runsP n r
def stepR (st : Option Int × List (Int × Int)) (e : Int) : Option Int × List (Int × Int) := match st.1 with
  | none => (some e, st.2)
  | some s => (none, st.2 ++ [(s, e)])
theorem stepR_runs (n : Int) : ∀ (es : List Int) (acc : List (Int × Int)), (match (es.foldl stepR (none, acc)).1 with | none => (es.foldl stepR (none, acc)).2 | some s => (es.foldl stepR (none, acc)).2 ++ [(s, n)]) = acc ++ runsP n es
  | [], acc => (List.append_nil acc).symm
  | [a], acc => rfl
  | a :: b :: r, acc => by
    have ih := stepR_runs n r (acc ++ [(a, b)])
    rw [List.append_assoc] at ih
    exact ih
theorem stepR_len : ∀ (es : List Int) (o : Option Int) (acc : List (Int × Int)), (es.foldl stepR (o, acc)).2.length ≤ acc.length + es.length
  | [], _, _ => Nat.le_refl _
  | e :: r, none, acc => by have := stepR_len r (some e) acc; show (r.foldl stepR (some e, acc)).2.length ≤ _; rw [List.length_cons]; omega
  | e :: r, some s, acc => by have := stepR_len r none (acc ++ [(s, e)]); show (r.foldl stepR (none, acc ++ [(s, e)])).2.length ≤ _; rw [List.length_append] at this; rw [List.length_cons]; simp at this; omega
def vOI (o : Option Int) : V := match o with
  | none => .non
  | some i => .int i
/-- the runs of a bitmap, handed out -/
def sp_Bitmap_runs (K : Frag) : SpG := fun vs H Q _ => ∃ (a : Addr) (n : Int) (es : List Int), vs = [.ref a] ∧ Bm K H a n es ∧ es.length ≤ 50000 ∧ ∀ ys H', Same H H' → PrsI K H' ys (runsP n es) → Q ys H'
theorem pure_Bitmap_runs {K : Frag} (vs : List V) (H : Hp) (Q : List V → Hp → Prop) (E : XK) (h : sp_Bitmap_runs K vs H Q E) : t_Bitmap_runs K E { nx := fun ys _ H' => Q ys H', rt := fun ys v H' => v = .non ∧ Q ys H' } [] (start ["self", "start", "end"] vs) H := by
  obtain ⟨a, n, es, rfl, hb, hl, q⟩ := h
  obtain ⟨cf, _, _, dx, u, sl, hu⟩ := id hb
  refine ⟨?_⟩
  refine Atr.sl cf sl (i := 0) rfl rfl ?_
  refine gfor_seq (K := K) (fun i ys σ H1 => ∃ x2 : Option V, σ = [some (.ref a), some (vOI ((es.take i).foldl stepR (none, [])).1), x2] ∧ Same H H1 ∧ PrsI K H1 ys ((es.take i).foldl stepR (none, [])).2) (.inr hu) ⟨none, rfl, Same.refl _, .nil⟩
    (fun i ys σ H' _ z => let ⟨_, _, e, _⟩ := z; Same.stay e) ?_ ?_
  · rintro i x ys σ H1 hj ⟨x2, rfl, e1, hP⟩
    obtain ⟨e, he, rfl⟩ := map_get hj
    have tk : (es.take (i + 1)).foldl stepR (none, []) = stepR ((es.take i).foldl stepR (none, [])) e := by rw [List.take_succ, he, List.foldl_append]; rfl
    have hln := stepR_len (es.take i) none []
    have hil : i < es.length := (List.getElem?_eq_some_iff.mp he).1
    rw [List.length_take] at hln
    rw [tk]
    generalize (es.take i).foldl stepR (none, []) = st at hP hln ⊢
    obtain ⟨o, acc⟩ := st
    have hlen : ys.length ≤ 50000 := by have h1 := hP.length; simp only [List.length_nil] at hln; dsimp only at h1 hln; omega
    cases o with
    | none =>
      refine ⟨rfl, ?_⟩
      exact ⟨_, rfl, e1, hP⟩
    | some s =>
      refine ⟨rfl, ?_⟩
      refine ⟨by rw [sizeLine_eq]; omega, ?_⟩
      refine ⟨by show 2 ≤ sizeLine; rw [sizeLine_eq]; decide, ⟨fun t H2 e2 ht => ?_⟩⟩
      exact ⟨_, rfl, e1.trans e2, Paired.snoc (hP.same e2) ⟨t, rfl, ht⟩⟩
  · rintro ys σ H1 ⟨x2, rfl, e1, hP⟩
    rw [List.length_map, List.take_length] at hP ⊢
    have hr := stepR_runs n es []
    have hln := stepR_len es none []
    generalize es.foldl stepR (none, []) = st at hP hr hln ⊢
    obtain ⟨o, acc⟩ := st
    have hlen : ys.length ≤ 50000 := by have h1 := hP.length; simp only [List.length_nil] at hln; dsimp only at h1 hln; omega
    refine ⟨?_⟩
    cases o with
    | none =>
      refine ⟨rfl, ?_⟩
      have hr : acc = runsP n es := hr
      rw [hr] at hP
      exact q _ _ e1 hP
    | some s =>
      refine ⟨rfl, ?_⟩
      refine ⟨by rw [sizeLine_eq]; omega, ?_⟩
      refine Atr.sl cf (Same.slt e1 sl) (i := 1) rfl rfl ?_
      refine ⟨by show 2 ≤ sizeLine; rw [sizeLine_eq]; decide, ⟨fun t H2 e2 ht => ?_⟩⟩
      have hr : acc ++ [(s, n)] = runsP n es := hr
      refine q _ _ (e1.trans e2) ?_
      rw [← hr]
      exact Paired.snoc (hP.same e2) ⟨t, rfl, ht⟩
end S
namespace S
open PySem PySem.Spec PyProof.Rows L2
def tF_Bitmap_runs_b1 (K : Frag) (E : XK) (Kc : TurnK) : TGn :=
    tGIf (dCmpT oIsN (dVar 1) (tC .non)) (tPlain (tAsg (dVar 2) (gName 1))) (tGThen (tFYield Kc (dTup K (tCons (dVar 1) (tCons (dVar 2) (tNil)))))
    (tPlain (tAsg (tC .non) (gName 1))))
def tF_Bitmap_runs_2 (K : Frag) (E : XK) (Kc : TurnK) : TGn :=
    tGIf (dCmpT oNotN (dVar 1) (tC .non)) (tFYield Kc (dTup K (tCons (dVar 1) (tCons (dAt K "size" (dVar 0)) (tNil))))) (tG0)
def tF_Bitmap_runs_1 (K : Frag) (E : XK) (Kc : TurnK) : TGn :=
    tGThen (dGFor (iSeq K (dAt K "ends" (dVar 0))) (gName 2) (tF_Bitmap_runs_b1 K E Kc))
    (gstop (tF_Bitmap_runs_2 K E Kc))
def tF_Bitmap_runs (K : Frag) (E : XK) (Kc : TurnK) : TGn :=
    tGThen (tPlain (tAsg (tC .non) (gName 1)))
    (gstop (tF_Bitmap_runs_1 K E Kc))
end S
-- fnF: Bitmap.runs
-- law: k06
-- deps: Bitmap_runs
namespace S
open PySem PySem.Spec PyProof.Rows L2
theorem stepR_mono : ∀ (es : List Int) (st : Option Int × List (Int × Int)), ∃ r, (es.foldl stepR st).2 = st.2 ++ r
  | [], st => ⟨[], (List.append_nil _).symm⟩
  | e :: r, (none, acc) => stepR_mono r (some e, acc)
  | e :: r, (some s, acc) => by
    obtain ⟨r', h⟩ := stepR_mono r (none, acc ++ [(s, e)])
    exact ⟨(s, e) :: r', by show (r.foldl stepR (none, acc ++ [(s, e)])).2 = _; rw [h, List.append_assoc]; rfl⟩
theorem stepR_pre (n : Int) (es : List Int) (i : Nat) : ∃ r, runsP n es = ((es.take i).foldl stepR (none, [])).2 ++ r := by
  have h := stepR_runs n es []
  rw [List.nil_append] at h
  obtain ⟨r, hr⟩ := stepR_mono (es.drop i) ((es.take i).foldl stepR (none, []))
  rw [← List.foldl_append, List.take_append_drop] at hr
  rw [← h]
  generalize es.foldl stepR (none, []) = st at hr ⊢
  obtain ⟨o, acc⟩ := st
  cases o with
  | none => exact ⟨r, hr⟩
  | some s => exact ⟨r ++ [(s, n)], by show acc ++ [(s, n)] = _; rw [show acc = _ from hr, List.append_assoc]⟩
/-- the runs of a bitmap, handed to a loop -/
def spF_Bitmap_runs (K : Frag) : SpF := fun vs H Kc Q => ∃ (a : Addr) (n : Int) (es : List Int), vs = [.ref a] ∧ Bm K H a n es ∧ es.length ≤ 50000 ∧
  (∀ (ys : List V) (s e : Int) (p : Addr) (H1 : Hp) (post : Hp → Prop), (runsP n es)[ys.length]? = some (s, e) → Same H H1 → SqT K H1 p [.int s, .int e] → (∀ H', Same H1 H' → post H') → Kc ys (.ref p) H1 post) ∧
  ∀ ys H', ys.length = (runsP n es).length → Same H H' → Q ys H'
theorem pureF_Bitmap_runs {K : Frag} (vs : List V) (H : Hp) (Kc : TurnK) (Q : List V → Hp → Prop) (h : spF_Bitmap_runs K vs H Kc Q) : tF_Bitmap_runs K E0 Kc { nx := fun ys _ H' => Q ys H', rt := fun ys v H' => v = .non ∧ Q ys H' } [] (start ["self", "start", "end"] vs) H := by
  obtain ⟨a, n, es, rfl, hb, hl, kc, q⟩ := h
  obtain ⟨cf, _, _, dx, u, sl, hu⟩ := id hb
  refine ⟨?_⟩
  refine Atr.sl cf sl (i := 0) rfl rfl ?_
  refine gfor_seq (K := K) (fun i ys σ H1 => ∃ x2 : Option V, σ = [some (.ref a), some (vOI ((es.take i).foldl stepR (none, [])).1), x2] ∧ Same H H1 ∧ ys.length = ((es.take i).foldl stepR (none, [])).2.length) (.inr hu) ⟨none, rfl, Same.refl _, rfl⟩
    (fun i ys σ H' _ z => let ⟨_, _, e, _⟩ := z; Same.stay e) ?_ ?_
  · rintro i x ys σ H1 hj ⟨x2, rfl, e1, hP⟩
    obtain ⟨e, he, rfl⟩ := map_get hj
    have tk : (es.take (i + 1)).foldl stepR (none, []) = stepR ((es.take i).foldl stepR (none, [])) e := by rw [List.take_succ, he, List.foldl_append]; rfl
    have hln := stepR_len (es.take i) none []
    obtain ⟨rest, hpre⟩ := stepR_pre n es (i + 1)
    have hil : i < es.length := (List.getElem?_eq_some_iff.mp he).1
    rw [List.length_take] at hln
    rw [tk] at hpre ⊢
    generalize (es.take i).foldl stepR (none, []) = st at hP hln hpre ⊢
    obtain ⟨o, acc⟩ := st
    simp only [List.length_nil] at hln
    dsimp only at hP hln
    cases o with
    | none =>
      refine ⟨rfl, ?_⟩
      exact ⟨_, rfl, e1, hP⟩
    | some s =>
      refine ⟨rfl, ?_⟩
      refine ⟨by rw [sizeLine_eq]; omega, ?_⟩
      refine ⟨by show 2 ≤ sizeLine; rw [sizeLine_eq]; decide, ⟨fun t H2 e2 ht => ?_⟩⟩
      have hpre : runsP n es = (acc ++ [(s, e)]) ++ rest := hpre
      refine kc ys s e t H2 _ ?_ (e1.trans e2) ht fun H3 e3 => ?_
      · rw [hpre, hP, List.append_assoc, List.getElem?_append_right (Nat.le_refl _), Nat.sub_self]
        rfl
      · exact ⟨_, rfl, (e1.trans e2).trans e3, by show (ys ++ [_]).length = (acc ++ [(s, e)]).length; rw [List.length_append, List.length_append, hP]; rfl⟩
  · rintro ys σ H1 ⟨x2, rfl, e1, hP⟩
    rw [List.length_map, List.take_length] at hP ⊢
    have hr := stepR_runs n es []
    have hln := stepR_len es none []
    generalize es.foldl stepR (none, []) = st at hP hr hln ⊢
    obtain ⟨o, acc⟩ := st
    simp only [List.length_nil] at hln
    dsimp only at hP hln
    refine ⟨?_⟩
    cases o with
    | none =>
      refine ⟨rfl, ?_⟩
      have hr : acc = runsP n es := hr
      exact q _ _ (by rw [← hr]; exact hP) e1
    | some s =>
      refine ⟨rfl, ?_⟩
      refine ⟨by rw [sizeLine_eq]; omega, ?_⟩
      refine Atr.sl cf (Same.slt e1 sl) (i := 1) rfl rfl ?_
      refine ⟨by show 2 ≤ sizeLine; rw [sizeLine_eq]; decide, ⟨fun t H2 e2 ht => ?_⟩⟩
      have hr : acc ++ [(s, n)] = runsP n es := hr
      refine kc ys s n t H2 _ ?_ (e1.trans e2) ht fun H3 e3 => ?_
      · rw [← hr, hP, List.getElem?_append_right (Nat.le_refl _), Nat.sub_self]
        rfl
      · refine q _ _ ?_ ((e1.trans e2).trans e3)
        rw [← hr, List.length_append, List.length_append, hP]
        rfl
end S
namespace S
open PySem PySem.Spec PyProof.Rows L2
def t_next_end_1 (K : Frag) (E : XK) : TS :=
    tRet (tOp (oIx K) (dVar 2) (dVar 3))
def t_next_end (K : Frag) (E : XK) : TS :=
    tSeq (dIfS (dOr (dCmpT (oEq K) (dVar 3) (tCB (cLen K) (tCons (dVar 2) (tNil)))) (dAnd (dCmpT oLt (dVar 1) (tCB (cLen K) (tCons (dVar 0) (tNil)))) (dCmpT oLt (tOp (oIx K) (dVar 0) (dVar 1)) (tOp (oIx K) (dVar 2) (dVar 3))))) (tRet (tOp (oIx K) (dVar 0) (dVar 1))) (tNext))
    (stop (t_next_end_1 K E))
end S
-- fn: next_end
-- law: k02
-- deps: D0
namespace S
open PySem PySem.Spec PyProof.Rows L2
def nextEnd : List Int → List Int → Int
  | x :: _, [] => x
  | x :: _, y :: _ => if x < y then x else y
  | [], y :: _ => y
  | [], [] => 0
def sp_next_end (K : Frag) : Sp := fun vs H Q _ => ∃ (p q : Addr) (one other : List Int) (i j : Nat), vs = [.ref p, .int (i : Int), .ref q, .int (j : Int)] ∧ SqA K H p (one.map V.int) ∧ SqA K H q (other.map V.int) ∧
  i ≤ one.length ∧ j ≤ other.length ∧ (i < one.length ∨ j < other.length) ∧ Q (.int (nextEnd (one.drop i) (other.drop j))) H
theorem at_map {ns : List Int} {i : Nat} (h : i < ns.length) : atI (ns.map V.int) (i : Int) = some (.int ns[i]) := atI_nat (by rw [List.getElem?_map, List.getElem?_eq_getElem h]; rfl)
theorem pure_next_end {K : Frag} (vs : List V) (H : Hp) (Q : VK) (E : XK) (h : sp_next_end K vs H Q E) : t_next_end K E { nx := fun _ H' => Q .non H', rt := Q } (start ["one", "i", "other", "j"] vs) H := by
  obtain ⟨p, q, one, other, i, j, rfl, hp, hq, hi, hj, hor, k⟩ := h
  walk_at "gx"
  rw [List.length_map]
  refine ifd (fun hjl => ?_) (fun hjl => ?_)
  · have hil : i < one.length := by omega
    have e : other.drop j = [] := List.drop_eq_nil_of_le (by omega)
    have e2 := List.drop_eq_getElem_cons hil
    rw [e, e2] at k
    have hx := at_map hil
    walk_at "gx"
    exact k
  · have hjl2 : j < other.length := by omega
    have e := List.drop_eq_getElem_cons hjl2
    have hy := at_map hjl2
    walk_at "gx"
    rw [List.length_map]
    refine ifd (fun hil => ?_) (fun hil => ?_)
    · have hil2 : i < one.length := by omega
      have hx := at_map hil2
      have e2 := List.drop_eq_getElem_cons hil2
      rw [e, e2] at k
      walk_at "gx"
      refine ifd (fun hlt => ?_) (fun hlt => ?_)
      · walk_at "gx"
        have k2 : Q (.int (if one[i] < other[j] then one[i] else other[j])) H := k
        rw [if_pos hlt] at k2; exact k2
      · walk_at "gx"
        have k2 : Q (.int (if one[i] < other[j] then one[i] else other[j])) H := k
        rw [if_neg hlt] at k2; exact k2
    · have e2 : one.drop i = [] := List.drop_eq_nil_of_le (by omega)
      rw [e, e2] at k
      walk_at "gx"
      exact k
end S
namespace S
open PySem PySem.Spec PyProof.Rows L2
def t_swept_b1_3 (K : Frag) (E : XK) : TS :=
    dIfS (dCmpT (oNe K) (tOp (oIx K) (dVar 2) (tOp (oAdd K) (tOp oMulA (tC (.int 2)) (dVar 6)) (dVar 7))) (dVar 8)) (tSeq (tAsg (tOp oSub (tC (.int 1)) (dVar 8)) (gName 8))
    (tDrop (dML K mApp (dVar 3) (tCons (dVar 9) (tNil))))) (tNext)
def t_swept_b1_2 (K : Frag) (E : XK) : TS :=
    tSeq (dIfS (dAnd (dCmpT oLt (dVar 5) (tCB (cLen K) (tCons (dVar 1) (tNil)))) (dCmpT (oEq K) (tOp (oIx K) (dVar 1) (dVar 5)) (dVar 9))) (tSeq (tAsg (tOp oSub (tC (.int 1)) (dVar 7)) (gName 7))
    (tAsg (tOp (oAdd K) (dVar 5) (tC (.int 1))) (gName 5))) (tNext))
    (stop (t_swept_b1_3 K E))
def t_swept_b1_1 (K : Frag) (E : XK) : TS :=
    tSeq (dIfS (dAnd (dCmpT oLt (dVar 4) (tCB (cLen K) (tCons (dVar 0) (tNil)))) (dCmpT (oEq K) (tOp (oIx K) (dVar 0) (dVar 4)) (dVar 9))) (tSeq (tAsg (tOp oSub (tC (.int 1)) (dVar 6)) (gName 6))
    (tAsg (tOp (oAdd K) (dVar 4) (tC (.int 1))) (gName 4))) (tNext))
    (stop (t_swept_b1_2 K E))
def t_swept_b1 (K : Frag) (E : XK) : TS :=
    tSeq (tAsg (dCall (sp_next_end K) (EW E) (tCons (dVar 0) (tCons (dVar 4) (tCons (dVar 1) (tCons (dVar 5) (tNil)))))) (gName 9))
    (stop (t_swept_b1_1 K E))
def t_swept_4 (K : Frag) (E : XK) : TS :=
    tRet (tCB (cTuple K) (tCons (dVar 3) (tNil)))
def t_swept_3 (K : Frag) (E : XK) : TS :=
    tSeq (dWhile (dOr (dCmpT oLt (dVar 4) (tCB (cLen K) (tCons (dVar 0) (tNil)))) (dCmpT oLt (dVar 5) (tCB (cLen K) (tCons (dVar 1) (tNil))))) (t_swept_b1 K E))
    (stop (t_swept_4 K E))
def t_swept_2 (K : Frag) (E : XK) : TS :=
    tSeq (tAsg3 (tC (.int 0)) (gName 6) (gName 7) (gName 8))
    (stop (t_swept_3 K E))
def t_swept_1 (K : Frag) (E : XK) : TS :=
    tSeq (tAsg2 (tC (.int 0)) (gName 4) (gName 5))
    (stop (t_swept_2 K E))
def t_swept (K : Frag) (E : XK) : TS :=
    tSeq (tAsg (dLst (tNil)) (gName 3))
    (stop (t_swept_1 K E))
end S
-- fn: swept
-- law: k02
-- deps: D0 next_end _law_in
namespace S
open PySem PySem.Spec PyProof.Rows L2
/-- one step of the sweep: at, the bits behind, the bit so far; the ends and the bit -/
def sweepAt (r : Bool → Bool → Bool) (at_ : Int) (f s b : Bool) (rest : List Int) : List Int := if r f s = b then rest else at_ :: rest
def sweep (r : Bool → Bool → Bool) : List Int → List Int → Bool → Bool → List Int
  | [], [], _, _ => []
  | x :: xs, [], f, s => sweepAt r x (!f) s (r f s) (sweep r xs [] (!f) s)
  | [], y :: ys, f, s => sweepAt r y f (!s) (r f s) (sweep r [] ys f (!s))
  | x :: xs, y :: ys, f, s =>
    if x < y then sweepAt r x (!f) s (r f s) (sweep r xs (y :: ys) (!f) s)
    else if x = y then sweepAt r x (!f) (!s) (r f s) (sweep r xs ys (!f) (!s))
    else sweepAt r y f (!s) (r f s) (sweep r (x :: xs) ys f (!s))
  termination_by xs ys => xs.length + ys.length
def ruleV (r : Bool → Bool → Bool) : List V := [.int (b2i (r false false)), .int (b2i (r false true)), .int (b2i (r true false)), .int (b2i (r true true))]
theorem rule_at (r : Bool → Bool → Bool) (f s : Bool) : atI (ruleV r) (2 * b2i f + b2i s) = some (.int (b2i (r f s))) := by
  cases f <;> cases s
  · exact atI_nat (j := 0) rfl
  · exact atI_nat (j := 1) rfl
  · exact atI_nat (j := 2) rfl
  · exact atI_nat (j := 3) rfl
theorem b2i_not (b : Bool) : 1 - b2i b = b2i (!b) := by cases b <;> rfl
def sp_swept (K : Frag) : Sp := fun vs H Q _ => ∃ (p q t : Addr) (one other : List Int) (r : Bool → Bool → Bool), vs = [.ref p, .ref q, .ref t] ∧ SqA K H p (one.map V.int) ∧ SqA K H q (other.map V.int) ∧ SqT K H t (ruleV r) ∧ r false false = false ∧
  one.length ≤ 100000 ∧ other.length ≤ 100000 ∧ ∀ (u : Addr) (H' : Hp), Same H H' → SqT K H' u ((sweep r one other false false).map V.int) → Q (.ref u) H'
/-- between two turns -/
def inv_swept (K : Frag) (H : Hp) (p q t e : Addr) (one other : List Int) (r : Bool → Bool → Bool) (m : Nat) (σ : L2.St) (H1 : Hp) : Prop := ∃ (i j : Nat) (f s : Bool) (L : List Int) (w : Option V),
  σ = [some (.ref p), some (.ref q), some (.ref t), some (.ref e), some (.int (i : Int)), some (.int (j : Int)), some (.int (b2i f)), some (.int (b2i s)), some (.int (b2i (r f s))), w] ∧
  H1 e = some (.lst (L.map V.int)) ∧ Same H H1 ∧ i ≤ one.length ∧ j ≤ other.length ∧ m = (one.length - i) + (other.length - j) ∧ L.length ≤ i + j ∧ L ++ sweep r (one.drop i) (other.drop j) f s = sweep r one other false false
theorem pure_swept {K : Frag} (vs : List V) (H : Hp) (Q : VK) (E : XK) (h : sp_swept K vs H Q E) : t_swept K E { nx := fun _ H' => Q .non H', rt := Q } (start ["one", "other", "rule", "ends", "i", "j", "first", "second", "bit", "at"] vs) H := by
  obtain ⟨p, q, t, one, other, r, rfl, hp, hq, ht, h00, hl1, hl2, k⟩ := h
  walk_at "gx"
  refine ⟨fun e he => ?_⟩
  walk_at "gx"
  refine ⟨inv_swept K H p q t e one other r, ⟨_, 0, 0, false, false, [], none, by rw [h00]; rfl, upd_same, same_new he, Nat.zero_le _, Nat.zero_le _, rfl, Nat.zero_le _, rfl⟩, ?_⟩
  rintro m σ H1 ⟨i, j, f, s, L, w, rfl, hL, hs, hi, hj, rfl, hlen, htot⟩
  have hp1 := Same.sqa hs hp
  have hq1 := Same.sqa hs hq
  have ht1 := Same.tup hs ht
  -- the turn itself
  have turn : ∀ (D : L2.Ends), (i < one.length ∨ j < other.length) → (∀ σ' H', (∃ m', m' < (one.length - i) + (other.length - j) ∧ inv_swept K H p q t e one other r m' σ' H') → D.nx σ' H') →
      t_swept_b1 K E D [some (.ref p), some (.ref q), some (.ref t), some (.ref e), some (.int (i : Int)), some (.int (j : Int)), some (.int (b2i f)), some (.int (b2i s)), some (.int (b2i (r f s))), w] H1 := by
    intro D hor hD
    refine ⟨p, q, one, other, i, j, rfl, hp1, hq1, hi, hj, hor, ?_⟩
    -- behind the two ifs
    have tail : ∀ (i2 j2 : Nat) (f2 s2 : Bool) (at_ : Int), i ≤ i2 → j ≤ j2 → i2 ≤ one.length → j2 ≤ other.length → i + j < i2 + j2 → sweep r (one.drop i) (other.drop j) f s = sweepAt r at_ f2 s2 (r f s) (sweep r (one.drop i2) (other.drop j2) f2 s2) →
        t_swept_b1_3 K E D [some (.ref p), some (.ref q), some (.ref t), some (.ref e), some (.int (i2 : Int)), some (.int (j2 : Int)), some (.int (b2i f2)), some (.int (b2i s2)), some (.int (b2i (r f s))), some (.int at_)] H1 := by
      intro i2 j2 f2 s2 at_ h1 h2 h3 h4 h5 hsw
      have hr := rule_at r f2 s2
      walk_at "gx"
      unfold sweepAt at hsw
      refine ifn (fun hne => ?_) (fun heq => ?_)
      · have hne2 : r f2 s2 ≠ r f s := fun z => hne (by rw [z])
        rw [if_neg hne2] at hsw
        have hnot : r f2 s2 = !(r f s) := by revert hne2; cases r f2 s2 <;> cases r f s <;> simp
        walk_at "gx"
        refine hD _ _ ⟨_, ?_, i2, j2, f2, s2, L ++ [at_], some (.int at_), ?_, ?_, Same.mut hs he, h3, h4, rfl, ?_, ?_⟩
        · omega
        · rw [hnot, ← b2i_not]; rfl
        · rw [List.map_append]; exact upd_same
        · rw [List.length_append]; show L.length + 1 ≤ _; omega
        · rw [List.append_assoc, ← htot, hsw]; rfl
      · have heq2 : r f2 s2 = r f s := by revert heq; cases r f2 s2 <;> cases r f s <;> simp [b2i]
        rw [if_pos heq2] at hsw
        refine hD _ _ ⟨_, ?_, i2, j2, f2, s2, L, some (.int at_), ?_, hL, hs, h3, h4, rfl, by omega, ?_⟩
        · omega
        · rw [heq2]
        · rw [← htot, hsw]
    have e1 : ∀ h : i < one.length, one.drop i = one[i] :: one.drop (i + 1) := fun h => List.drop_eq_getElem_cons h
    have e2 : ∀ h : j < other.length, other.drop j = other[j] :: other.drop (j + 1) := fun h => List.drop_eq_getElem_cons h
    have n1 : ¬ i < one.length → one.drop i = [] := fun h => List.drop_eq_nil_of_le (by omega)
    have n2 : ¬ j < other.length → other.drop j = [] := fun h => List.drop_eq_nil_of_le (by omega)
    by_cases hil : i < one.length
    · have hx := at_map hil
      by_cases hjl : j < other.length
      · have hy := at_map hjl
        rw [e1 hil, e2 hjl]
        have hn : nextEnd (one[i] :: one.drop (i + 1)) (other[j] :: other.drop (j + 1)) = if one[i] < other[j] then one[i] else other[j] := rfl
        rw [hn]
        have hsw : sweep r (one.drop i) (other.drop j) f s = if one[i] < other[j] then sweepAt r one[i] (!f) s (r f s) (sweep r (one.drop (i + 1)) (other[j] :: other.drop (j + 1)) (!f) s)
            else if one[i] = other[j] then sweepAt r one[i] (!f) (!s) (r f s) (sweep r (one.drop (i + 1)) (other.drop (j + 1)) (!f) (!s))
            else sweepAt r other[j] f (!s) (r f s) (sweep r (one[i] :: one.drop (i + 1)) (other.drop (j + 1)) f (!s)) := by
          rw [e1 hil, e2 hjl, sweep]
        by_cases hlt : one[i] < other[j]
        · rw [if_pos hlt]
          rw [if_pos hlt, ← e2 hjl] at hsw
          walk_at "gx"
          rw [List.length_map]
          refine ift (by omega) ?_
          walk_at "gx"
          refine ift rfl ?_
          walk_at "gx"
          rw [List.length_map]
          refine ift (by omega) ?_
          walk_at "gx"
          refine iff' (by omega) ?_
          have z := tail (i + 1) j (!f) s one[i] (by omega) (by omega) (by omega) (by omega) (by omega) hsw
          rw [← b2i_not] at z
          exact Stop.mk z
        · rw [if_neg hlt]
          rw [if_neg hlt] at hsw
          by_cases heq : one[i] = other[j]
          · rw [if_pos heq] at hsw
            walk_at "gx"
            rw [List.length_map]
            refine ift (by omega) ?_
            walk_at "gx"
            refine ift heq ?_
            walk_at "gx"
            rw [List.length_map]
            refine ift (by omega) ?_
            walk_at "gx"
            refine ift rfl ?_
            walk_at "go"
            have z := tail (i + 1) (j + 1) (!f) (!s) other[j] (by omega) (by omega) (by omega) (by omega) (by omega) (by rw [hsw, heq])
            rw [← b2i_not, ← b2i_not] at z
            exact Stop.mk z
          · rw [if_neg heq] at hsw
            rw [← e1 hil] at hsw
            walk_at "gx"
            rw [List.length_map]
            refine ift (by omega) ?_
            walk_at "gx"
            refine iff' heq ?_
            walk_at "gx"
            rw [List.length_map]
            refine ift (by omega) ?_
            walk_at "gx"
            refine ift rfl ?_
            walk_at "go"
            have z := tail i (j + 1) f (!s) other[j] (by omega) (by omega) (by omega) (by omega) (by omega) hsw
            rw [← b2i_not] at z
            exact Stop.mk z
      · have hsw : sweep r (one.drop i) (other.drop j) f s = sweepAt r one[i] (!f) s (r f s) (sweep r (one.drop (i + 1)) (other.drop j) (!f) s) := by
          rw [e1 hil, n2 hjl, sweep]
        have hn : nextEnd (one.drop i) (other.drop j) = one[i] := by rw [e1 hil, n2 hjl]; rfl
        rw [hn]
        walk_at "gx"
        rw [List.length_map]
        refine ift (by omega) ?_
        walk_at "gx"
        refine ift rfl ?_
        walk_at "gx"
        rw [List.length_map]
        refine iff' (by omega) ?_
        have z := tail (i + 1) j (!f) s one[i] (by omega) (by omega) (by omega) (by omega) (by omega) hsw
        rw [← b2i_not] at z
        exact Stop.mk z
    · have hjl : j < other.length := by omega
      have hy := at_map hjl
      have hsw : sweep r (one.drop i) (other.drop j) f s = sweepAt r other[j] f (!s) (r f s) (sweep r (one.drop i) (other.drop (j + 1)) f (!s)) := by
        rw [e2 hjl, n1 hil, sweep]
      have hn : nextEnd (one.drop i) (other.drop j) = other[j] := by rw [e2 hjl, n1 hil]; rfl
      rw [hn]
      walk_at "gx"
      rw [List.length_map]
      refine iff' (by omega) ?_
      walk_at "gx"
      rw [List.length_map]
      refine ift (by omega) ?_
      walk_at "gx"
      refine ift rfl ?_
      walk_at "go"
      have z := tail i (j + 1) f (!s) other[j] (by omega) (by omega) (by omega) (by omega) (by omega) hsw
      rw [← b2i_not] at z
      exact Stop.mk z
  walk_at "gx"
  rw [List.length_map]
  refine ifd (fun hil => ?_) (fun hil => ?_)
  · exact turn _ (.inl (by omega)) fun _ _ z => z
  · walk_at "gx"
    rw [List.length_map]
    refine ifd (fun hjl => ?_) (fun hjl => ?_)
    · exact turn _ (.inr (by omega)) fun _ _ z => z
    · walk_at "gx"
      refine ⟨fun u H2 e2 hu => k u H2 (hs.trans e2) ?_⟩
      have e : L = sweep r one other false false := by
        rw [← htot, List.drop_eq_nil_of_le (by omega), List.drop_eq_nil_of_le (by omega), sweep, List.append_nil]
      rw [← e]; exact hu
/-! ### the law of the sweep -/
theorem inB_before {ns : List Int} {row : Int} (h : ∀ x ∈ ns, row < x) : inB ns row = false := by
  induction ns with
  | nil => rfl
  | cons x r ih =>
    rw [inB_cons, if_neg (by have := h x (List.mem_cons_self ..); omega)]
    exact ih fun y hy => h y (List.mem_cons_of_mem _ hy)
/-- what the sweep holds is behind lo and ascends; at each row its bit -/
theorem sweep_law (r : Bool → Bool → Bool) : ∀ (n : Nat) (xs ys : List Int) (f s : Bool) (lo : Int), xs.length + ys.length ≤ n → xs.Pairwise (· < ·) → ys.Pairwise (· < ·) → (∀ x ∈ xs, lo ≤ x) → (∀ y ∈ ys, lo ≤ y) →
    (sweep r xs ys f s).Pairwise (· < ·) ∧ (∀ z ∈ sweep r xs ys f s, lo ≤ z ∧ (z ∈ xs ∨ z ∈ ys)) ∧ ∀ row, ((r f s) ^^ inB (sweep r xs ys f s) row) = r (f ^^ inB xs row) (s ^^ inB ys row) := by
  intro n
  induction n with
  | zero =>
    intro xs ys f s lo hn _ _ _ _
    cases xs with
    | cons x xs => simp at hn
    | nil =>
      cases ys with
      | cons y ys => simp at hn
      | nil =>
        rw [sweep]
        exact ⟨.nil, fun _ z => (nomatch z), fun row => by simp [inB]⟩
  | succ n ih =>
    -- one step at at_, the smallest of both
    have step : ∀ (xs ys xs2 ys2 : List Int) (f s f2 s2 : Bool) (lo at_ : Int), lo ≤ at_ → xs2.length + ys2.length ≤ n → xs2.Pairwise (· < ·) → ys2.Pairwise (· < ·) → (∀ x ∈ xs2, at_ < x) → (∀ y ∈ ys2, at_ < y) →
        (∀ z, z ∈ xs2 → z ∈ xs) → (∀ z, z ∈ ys2 → z ∈ ys) → (at_ ∈ xs ∨ at_ ∈ ys) →
        (∀ row, at_ ≤ row → (f ^^ inB xs row) = (f2 ^^ inB xs2 row) ∧ (s ^^ inB ys row) = (s2 ^^ inB ys2 row)) → (∀ row, row < at_ → inB xs row = false ∧ inB ys row = false) →
        (sweepAt r at_ f2 s2 (r f s) (sweep r xs2 ys2 f2 s2)).Pairwise (· < ·) ∧ (∀ z ∈ sweepAt r at_ f2 s2 (r f s) (sweep r xs2 ys2 f2 s2), lo ≤ z ∧ (z ∈ xs ∨ z ∈ ys)) ∧
          ∀ row, ((r f s) ^^ inB (sweepAt r at_ f2 s2 (r f s) (sweep r xs2 ys2 f2 s2)) row) = r (f ^^ inB xs row) (s ^^ inB ys row) := by
      intro xs ys xs2 ys2 f s f2 s2 lo at_ hlo hn h1 h2 h3 h4 h5 h6 h7 h8 h9
      obtain ⟨i1, i2, i3⟩ := ih xs2 ys2 f2 s2 (at_ + 1) hn h1 h2 (fun x hx => h3 x hx) (fun y hy => h4 y hy)
      unfold sweepAt
      by_cases he : r f2 s2 = r f s
      · rw [if_pos he]
        refine ⟨i1, fun z hz => ⟨by have := (i2 z hz).1; omega, (i2 z hz).2.imp (h5 z) (h6 z)⟩, fun row => ?_⟩
        by_cases hrow : at_ ≤ row
        · rw [(h8 row hrow).1, (h8 row hrow).2, ← i3 row, he]
        · rw [(h9 row (by omega)).1, (h9 row (by omega)).2, inB_before fun x hx => by have := (i2 x hx).1; omega]
          simp
      · rw [if_neg he]
        refine ⟨List.pairwise_cons.mpr ⟨fun z hz => by have := (i2 z hz).1; omega, i1⟩, fun z hz => ?_, fun row => ?_⟩
        · rcases List.mem_cons.mp hz with rfl | hz
          · exact ⟨hlo, h7⟩
          · exact ⟨by have := (i2 z hz).1; omega, (i2 z hz).2.imp (h5 z) (h6 z)⟩
        · by_cases hrow : at_ ≤ row
          · rw [inB_cons, if_pos hrow, (h8 row hrow).1, (h8 row hrow).2, ← i3 row]
            revert he
            cases r f2 s2 <;> cases r f s <;> cases inB (sweep r xs2 ys2 f2 s2) row <;> simp
          · rw [(h9 row (by omega)).1, (h9 row (by omega)).2, inB_cons, if_neg hrow, inB_before fun x hx => by have := (i2 x hx).1; omega]
            simp
    intro xs ys f s lo hn hx hy lx ly
    cases xs with
    | nil =>
      cases ys with
      | nil =>
        rw [sweep]
        exact ⟨.nil, fun _ z => (nomatch z), fun row => by simp [inB]⟩
      | cons y ys =>
        rw [sweep]
        have hy2 := List.pairwise_cons.mp hy
        refine step [] (y :: ys) [] ys f s f (!s) lo y (ly y (List.mem_cons_self ..)) (by simp at hn ⊢; omega) .nil hy2.2 (fun _ z => nomatch z) hy2.1 (fun _ z => z) (fun z hz => List.mem_cons_of_mem _ hz) (.inr (List.mem_cons_self ..)) (fun row h => ⟨rfl, ?_⟩) fun row h => ⟨rfl, inB_before fun z hz => ?_⟩
        · rw [inB_cons, if_pos h]; cases s <;> cases inB ys row <;> rfl
        · rcases List.mem_cons.mp hz with rfl | hz
          · exact h
          · have := hy2.1 z hz; omega
    | cons x xs =>
      have hx2 := List.pairwise_cons.mp hx
      cases ys with
      | nil =>
        rw [sweep]
        refine step (x :: xs) [] xs [] f s (!f) s lo x (lx x (List.mem_cons_self ..)) (by simp at hn ⊢; omega) hx2.2 .nil hx2.1 (fun _ z => nomatch z) (fun z hz => List.mem_cons_of_mem _ hz) (fun _ z => z) (.inl (List.mem_cons_self ..)) (fun row h => ⟨?_, rfl⟩) fun row h => ⟨inB_before fun z hz => ?_, rfl⟩
        · rw [inB_cons, if_pos h]; cases f <;> cases inB xs row <;> rfl
        · rcases List.mem_cons.mp hz with rfl | hz
          · exact h
          · have := hx2.1 z hz; omega
      | cons y ys =>
        have hy2 := List.pairwise_cons.mp hy
        have before : ∀ {l : List Int} {a b row : Int}, (∀ z ∈ l, a < z) → row < a → inB (a :: l) row = false := fun hl hr => inB_before fun z hz => by
          rcases List.mem_cons.mp hz with rfl | hz
          · exact hr
          · have := hl z hz; omega
        rw [sweep]
        by_cases hlt : x < y
        · rw [if_pos hlt]
          refine step (x :: xs) (y :: ys) xs (y :: ys) f s (!f) s lo x (lx x (List.mem_cons_self ..)) (by simp at hn ⊢; omega) hx2.2 hy hx2.1 (fun z hz => ?_) (fun z hz => List.mem_cons_of_mem _ hz) (fun _ z => z) (.inl (List.mem_cons_self ..)) (fun row h => ⟨?_, rfl⟩) fun row h => ⟨before (b := 0) hx2.1 h, before (b := 0) hy2.1 (by omega)⟩
          · rcases List.mem_cons.mp hz with rfl | hz
            · exact hlt
            · have := hy2.1 z hz; omega
          · rw [inB_cons, if_pos h]; cases f <;> cases inB xs row <;> rfl
        · rw [if_neg hlt]
          by_cases heq : x = y
          · rw [if_pos heq]
            subst heq
            refine step (x :: xs) (x :: ys) xs ys f s (!f) (!s) lo x (lx x (List.mem_cons_self ..)) (by simp at hn ⊢; omega) hx2.2 hy2.2 hx2.1 hy2.1 (fun z hz => List.mem_cons_of_mem _ hz) (fun z hz => List.mem_cons_of_mem _ hz) (.inl (List.mem_cons_self ..)) (fun row h => ⟨?_, ?_⟩) fun row h => ⟨before (b := 0) hx2.1 h, before (b := 0) hy2.1 h⟩
            · rw [inB_cons, if_pos h]; cases f <;> cases inB xs row <;> rfl
            · rw [inB_cons, if_pos h]; cases s <;> cases inB ys row <;> rfl
          · rw [if_neg heq]
            refine step (x :: xs) (y :: ys) (x :: xs) ys f s f (!s) lo y (ly y (List.mem_cons_self ..)) (by simp at hn ⊢; omega) hx hy2.2 (fun z hz => ?_) hy2.1 (fun _ z => z) (fun z hz => List.mem_cons_of_mem _ hz) (.inr (List.mem_cons_self ..)) (fun row h => ⟨rfl, ?_⟩) fun row h => ⟨before (b := 0) hx2.1 (by omega), before (b := 0) hy2.1 h⟩
            · rcases List.mem_cons.mp hz with rfl | hz
              · omega
              · have := hx2.1 z hz; omega
            · rw [inB_cons, if_pos h]; cases s <;> cases inB ys row <;> rfl
theorem sweepAt_len (r : Bool → Bool → Bool) (at_ : Int) (f s b : Bool) (l : List Int) : (sweepAt r at_ f s b l).length ≤ l.length + 1 := by
  unfold sweepAt
  split
  · omega
  · simp
theorem sweep_len (r : Bool → Bool → Bool) : ∀ (n : Nat) (xs ys : List Int) (f s : Bool), xs.length + ys.length ≤ n → (sweep r xs ys f s).length ≤ xs.length + ys.length := by
  intro n
  induction n with
  | zero =>
    intro xs ys f s hn
    cases xs with
    | cons x xs => simp at hn
    | nil =>
      cases ys with
      | cons y ys => simp at hn
      | nil => rw [sweep]; simp
  | succ n ih =>
    intro xs ys f s hn
    cases xs with
    | nil =>
      cases ys with
      | nil => rw [sweep]; simp
      | cons y ys =>
        rw [sweep]
        have := ih [] ys f (!s) (by simp at hn ⊢; omega)
        exact Nat.le_trans (sweepAt_len ..) (by simp at this ⊢; omega)
    | cons x xs =>
      cases ys with
      | nil =>
        rw [sweep]
        have := ih xs [] (!f) s (by simp at hn ⊢; omega)
        exact Nat.le_trans (sweepAt_len ..) (by simp at this ⊢; omega)
      | cons y ys =>
        rw [sweep]
        split
        · have := ih xs (y :: ys) (!f) s (by simp at hn ⊢; omega)
          exact Nat.le_trans (sweepAt_len ..) (by simp at this ⊢; omega)
        · split
          · have := ih xs ys (!f) (!s) (by simp at hn ⊢; omega)
            exact Nat.le_trans (sweepAt_len ..) (by simp at this ⊢; omega)
          · have := ih (x :: xs) ys f (!s) (by simp at hn ⊢; omega)
            exact Nat.le_trans (sweepAt_len ..) (by simp at this ⊢; omega)
end S
namespace S
open PySem PySem.Spec PyProof.Rows L2
def t_Bitmapdd_initdd_b1_1 (K : Frag) (E : XK) : TS :=
    tAsg (dVar 4) (gName 3)
def t_Bitmapdd_initdd_b1 (K : Frag) (E : XK) : TS :=
    tSeq (dIfS (dNot (dChainT oLt oLt (dVar 3) (dVar 4) (dVar 1))) (dGivS (ExF K "BadBitmap" ["SliceError"]) (dRaise K "BadBitmap" (WD E))) (tNext))
    (stop (t_Bitmapdd_initdd_b1_1 K E))
def t_Bitmapdd_initdd_4 (K : Frag) (E : XK) : TS :=
    dSto K "ends" (tCB (cTuple K) (tCons (dVar 2) (tNil))) (dVar 0)
def t_Bitmapdd_initdd_3 (K : Frag) (E : XK) : TS :=
    tSeq (dSto K "size" (dVar 1) (dVar 0))
    (stop (t_Bitmapdd_initdd_4 K E))
def t_Bitmapdd_initdd_2 (K : Frag) (E : XK) : TS :=
    tSeq (dIfS (dCmpT oLt (dVar 1) (tC (.int 0))) (dGivS (ExF K "BadBitmap" ["SliceError"]) (dRaise K "BadBitmap" (WD E))) (tNext))
    (stop (t_Bitmapdd_initdd_3 K E))
def t_Bitmapdd_initdd_1 (K : Frag) (E : XK) : TS :=
    tSeq (dFor (iSeq K (dVar 2)) (gName 4) (t_Bitmapdd_initdd_b1 K E))
    (stop (t_Bitmapdd_initdd_2 K E))
def t_Bitmapdd_initdd (K : Frag) (E : XK) : TS :=
    tSeq (tAsg (tUn uNeg (tC (.int 1))) (gName 3))
    (stop (t_Bitmapdd_initdd_1 K E))
end S
-- fn: Bitmap.__init__
-- law: k01
-- deps: Bm _law_in
namespace S
open PySem PySem.Spec PyProof.Rows L2
abbrev XF (K : Frag) (x : Str) : Prop := ExF K x ["SliceError"]
def sp_Bitmapdd_initdd (K : Frag) : Sp := fun vs H Q E => ∃ (x dx p : Addr) (n : Int) (es : List Int), vs = [.ref x, .int n, .ref p] ∧ BmF K ∧ H x = some (.ins (He.ga K "Bitmap") dx []) ∧ H dx = some (.own x) ∧ dx ≠ x ∧ SqA K H p (es.map V.int) ∧
  (0 ≤ n → Ends n es → ∀ H', SameO x dx H H' → Bm K H' x n es → Q .non H') ∧
  (¬ (0 ≤ n ∧ Ends n es) → XF K "BadBitmap" → E (.ref (He.ga K "BadBitmap")) none H)
/-- the ends ahead of i ascend within the size, the last one is last -/
def goodTo (n : Int) (es : List Int) (i : Nat) (last : Int) : Prop := Ends n (es.take i) ∧ (∀ x ∈ es.take i, x ≤ last) ∧ ((i = 0 ∧ last = -1) ∨ last ∈ es.take i)
theorem goodTo_snoc {n : Int} {es : List Int} {i : Nat} {last x : Int} (h : goodTo n es i last) (hx : es[i]? = some x) (h1 : last < x) (h2 : x < n) : goodTo n es (i + 1) x := by
  have e : es.take (i + 1) = es.take i ++ [x] := by rw [List.take_succ, hx]; rfl
  obtain ⟨hE, hl, hm⟩ := h
  have h0 : 0 ≤ x := by
    rcases hm with ⟨_, e⟩ | hm
    · omega
    · have := (hE.2 last hm).1; omega
  refine ⟨?_, fun y hy => ?_, .inr ?_⟩
  · rw [e]
    exact hE.snoc (fun y hy => by have := hl y hy; omega) h0 h2
  · rw [e] at hy
    rcases List.mem_append.mp hy with hy | hy
    · have := hl y hy; omega
    · rw [List.mem_singleton.mp hy]; exact Int.le_refl _
  · rw [e]; exact List.mem_append.mpr (.inr (List.mem_singleton.mpr rfl))
theorem goodTo_bad {n : Int} {es : List Int} {i : Nat} {last x : Int} (h : goodTo n es i last) (hx : es[i]? = some x) (hb : ¬ (last < x ∧ x < n)) : ¬ Ends n es := fun hE => by
  obtain ⟨_, hl, hm⟩ := h
  have hr := hE.2 x (List.mem_of_getElem? hx)
  refine hb ⟨?_, hr.2⟩
  rcases hm with ⟨_, e⟩ | hm
  · omega
  · obtain ⟨j, hj⟩ := List.mem_iff_getElem?.mp hm
    have hj2 : j < i := by
      obtain ⟨hlt, _⟩ := List.getElem?_eq_some_iff.mp hj
      rw [List.length_take] at hlt
      omega
    rw [List.getElem?_take_of_lt hj2] at hj
    exact pw_lt hE.1 hj2 hj hx
theorem pure_Bitmapdd_initdd {K : Frag} (vs : List V) (H : Hp) (Q : VK) (E : XK) (h : sp_Bitmapdd_initdd K vs H Q E) : t_Bitmapdd_initdd K E { nx := fun _ H' => Q .non H', rt := Q } (start ["self", "size", "ends", "last", "end"] vs) H := by
  obtain ⟨x, dx, p, n, es, rfl, hc, hx, hdx, hne, hp, good, bad⟩ := h
  walk_at "gx"
  refine for_seq (fun i σ H1 => H1 = H ∧ ∃ (last : Int) (k : Option V), σ = [some (.ref x), some (.int n), some (.ref p), some (.int last), k] ∧ goodTo n es i last) hp ⟨rfl, -1, none, rfl, ⟨.nil, fun _ z => nomatch z⟩, fun _ z => (nomatch z), .inl ⟨rfl, rfl⟩⟩
    (fun i σ H1 _ z => by rw [z.1]; exact Same.stay (Same.refl _)) ?_ ?_
  · rintro i v σ H1 hi ⟨rfl, last, k, rfl, hg⟩
    obtain ⟨y, hy, rfl⟩ := map_get hi
    walk_at "gx"
    refine ifd (fun h1 => ?_) (fun h1 => ?_)
    · walk_at "gx"
      refine ifn (fun h2 => ?_) (fun h2 => ?_)
      · exact fun xf => bad (fun z => goodTo_bad hg hy (fun z => h2 z.2) z.2) xf
      · exact ⟨rfl, _, _, rfl, goodTo_snoc hg hy h1 h2⟩
    · exact fun xf => bad (fun z => goodTo_bad hg hy (fun z => h1 z.1) z.2) xf
  · rintro σ H1 ⟨rfl, last, k, rfl, hg⟩
    rw [List.length_map] at hg
    have hE : Ends n es := by
      have := hg.1
      rwa [List.take_length] at this
    walk_at "gx"
    refine ifd (fun h1 => ?_) (fun h1 => ?_)
    · exact fun xf => bad (fun z => by omega) xf
    walk_at "gx"
    have s0 : SlX.Slt H1 x (He.ga K "Bitmap") dx [] := .inl ⟨hx, rfl⟩
    refine Sto.sl hc s0 (i := 1) rfl ?_
    have hy0 : ∀ o, H1 dx = some o → (∀ ys, o ≠ .tup ys) ∧ ∀ u w, o ≠ .frz u w := fun o ho => by
      rw [hdx] at ho
      cases ho
      exact ⟨fun _ z => (nomatch z), fun _ _ z => (nomatch z)⟩
    have e1 : SameO x dx H1 (SlX.slH H1 x (He.ga K "Bitmap") dx (SlX.putS 1 (.int n) [])) := SameO.slH
    have hp1 : SqA K (SlX.slH H1 x (He.ga K "Bitmap") dx (SlX.putS 1 (.int n) [])) p (es.map V.int) := by
      rcases hp with hp | hp
      · refine .inl ?_
        rcases hp with (hp | ⟨o, hp⟩) | hp
        · exact .inl (.inl (e1 _ _ hp (ne_of hp hx (fun z => by cases z)) (ne_of hp hdx (fun z => by cases z))))
        · exact .inl (.inr ⟨o, e1 _ _ hp (ne_of hp hx (fun z => by cases z)) (ne_of hp hdx (fun z => by cases z))⟩)
        · exact .inr hp
      · exact .inr (e1.tup s0 hy0 hp)
    walk_at "gx"
    refine ⟨fun t H2 e2 ht => ?_⟩
    walk_at "gx"
    have s1 : SlX.Slt H2 x (He.ga K "Bitmap") dx [none, some (.int n)] := Same.slt e2 (SlX.slH_slt hne)
    refine Sto.sl hc s1 (i := 0) rfl ?_
    have hd2 : H2 dx = some (.xd []) := e2 _ _ (by unfold SlX.slH; rw [upd_ne hne, upd_same])
    have hy2 : ∀ o, H2 dx = some o → (∀ ys, o ≠ .tup ys) ∧ ∀ u w, o ≠ .frz u w := fun o ho => by
      rw [hd2] at ho
      cases ho
      exact ⟨fun _ z => (nomatch z), fun _ _ z => (nomatch z)⟩
    refine good (by omega) hE _ ((e1.trans (Same.o e2)).trans SameO.slH) ⟨hc, by omega, hE, dx, t, SlX.slH_slt hne, SameO.slH.tup s1 hy2 ht⟩
/-- a bitmap is made -/
theorem mk_bitmap {K : Frag} {H : Hp} {n : Int} {es : List Int} {p : Addr} {R : Addr → Hp → Prop} {E : XK} (c : BmF K) (hp : SqA K H p (es.map V.int)) (good : 0 ≤ n → Ends n es → ∀ x H', Same H H' → H x = none → Bm K H' x n es → R x H')
    (bad : ¬ (0 ≤ n ∧ Ends n es) → XF K "BadBitmap" → ∀ H', Same H H' → E (.ref (He.ga K "BadBitmap")) none H') :
    NewI K H "Bitmap" fun x H2 => sp_Bitmapdd_initdd K [.ref x, .int n, .ref p] H2 (fun v H3 => v = .non ∧ R x H3) E := by
  refine ⟨fun x dx h1 h2 hne => ?_⟩
  have e : Same H (upd (upd H dx (.own x)) x (.ins (He.ga K "Bitmap") dx [])) := fun b o h => by
    rw [upd_ne (ne_of_none h h1), upd_ne (ne_of_none h h2)]; exact h
  refine ⟨x, dx, p, n, es, rfl, c, upd_same, by rw [upd_ne hne, upd_same], hne, Same.sqa e hp, fun h0 hE H' eo hb => ⟨rfl, good h0 hE x H' ?_ h1 hb⟩, fun hb xf => bad hb xf _ e⟩
  exact fun b o h => eo b o (e b o h) (ne_of_none h h1) (ne_of_none h h2)
end S
namespace S
open PySem PySem.Spec PyProof.Rows L2
def t_Bitmap_rank_b1 (K : Frag) (E : XK) : TS :=
    dIfS (dCmpT oLt (dVar 4) (dVar 1)) (tAsg (tOp (oAdd K) (dVar 2) (tOp oMulA (tOp oSub (dVar 1) (dVar 4)) (tOp oSub (tC (.int 1)) (tOp oMulA (tC (.int 2)) (tOp oAnd (dVar 3) (tC (.int 1))))))) (gName 2)) (tNext)
def t_Bitmap_rank_3 (K : Frag) (E : XK) : TS :=
    tRet (dVar 2)
def t_Bitmap_rank_2 (K : Frag) (E : XK) : TS :=
    tSeq (dFor (iEn K (dAt K "ends" (dVar 0))) (gTup K 2 (gCons (gName 3) (gCons (gName 4) (gNil)))) (t_Bitmap_rank_b1 K E))
    (stop (t_Bitmap_rank_3 K E))
def t_Bitmap_rank_1 (K : Frag) (E : XK) : TS :=
    tSeq (tAsg (tC (.int 0)) (gName 2))
    (stop (t_Bitmap_rank_2 K E))
def t_Bitmap_rank (K : Frag) (E : XK) : TS :=
    tSeq (dIfS (dNot (dChainT oLe oLe (tC (.int 0)) (dVar 1) (dAt K "size" (dVar 0)))) (dGivS (ExF K "NoSuchRow" ["SliceError"]) (dRsI K "NoSuchRow" "row" (WD E) 1)) (tNext))
    (stop (t_Bitmap_rank_1 K E))
end S
-- fn: Bitmap.rank
-- law: k11
-- deps: Bm _law_in swept Bitmap_init
namespace S
open PySem PySem.Spec PyProof.Rows L2
/-- the rows below the row, by the ends; s: 1 at an end that begins, -1 at one that stops -/
def rankF (row : Int) : List Int → Int → Int
  | [], _ => 0
  | e :: r, s => (if e < row then (row - e) * s else 0) + rankF row r (-s)
theorem rankF_snoc (row x : Int) : ∀ (l : List Int) (s : Int), rankF row (l ++ [x]) s = rankF row l s + (if x < row then (row - x) * (if l.length % 2 = 0 then s else -s) else 0)
  | [], s => by simp [rankF]
  | e :: r, s => by
    show (if e < row then (row - e) * s else 0) + rankF row (r ++ [x]) (-s) = (if e < row then (row - e) * s else 0) + rankF row r (-s) + _
    have k : (if r.length % 2 = 0 then -s else - -s) = (if (r.length + 1) % 2 = 0 then s else -s) := by
      by_cases h : r.length % 2 = 0
      · rw [if_pos h, if_neg (by omega)]
      · rw [if_neg h, if_pos (by omega), Int.neg_neg]
    rw [rankF_snoc row x r (-s), List.length_cons, k, Int.add_assoc]
def sp_Bitmap_rank (K : Frag) : Sp := fun vs H Q E => ∃ (x : Addr) (n row : Int) (es : List Int), vs = [.ref x, .int row] ∧ Bm K H x n es ∧ n ≤ 2 * 10 ^ 18 ∧ es.length ≤ 50000 ∧ (0 ≤ row → row ≤ n → ∀ H', Same H H' → Q (.int (rankF row es 1)) H') ∧
  (¬ (0 ≤ row ∧ row ≤ n) → XF K "NoSuchRow" → ∀ d, H d = none → E (.ref (He.ga K "NoSuchRow")) (some d) (upd H d (.xd [("row", .int row)])))
theorem sgn (i : Nat) : 1 - 2 * Builtin.bitAnd (i : Int) 1 = if i % 2 = 0 then 1 else -1 := by
  rw [bitAnd_m1]
  by_cases h : i % 2 = 0
  · rw [if_pos h]; omega
  · rw [if_neg h]; omega
theorem pure_Bitmap_rank {K : Frag} (vs : List V) (H : Hp) (Q : VK) (E : XK) (h : sp_Bitmap_rank K vs H Q E) : t_Bitmap_rank K E { nx := fun _ H' => Q .non H', rt := Q } (start ["self", "row", "below", "k", "end"] vs) H := by
  obtain ⟨x, n, row, es, rfl, hb, n1, hl, good, bad⟩ := h
  obtain ⟨c, n0, hE, dx, p, hs, hp⟩ := id hb
  have raise : ¬ (0 ≤ row ∧ row ≤ n) → ∀ k, dGivS (ExF K "NoSuchRow" ["SliceError"]) (dRsI K "NoSuchRow" "row" (WD E) 1) k [some (.ref x), some (.int row), none, none, none] H := fun hb k xf => ⟨fun d nd => bad hb xf d nd⟩
  walk_at "gx"
  refine ifd (fun r0 => ?_) (fun r0 => raise (fun z => r0 z.1) _)
  refine Atr.sl c hs (i := 1) rfl rfl ?_
  show bIf (!decide (row ≤ n)) _ _
  refine ifn (fun r1 => raise (fun z => r1 z.2) _) (fun r1 => ?_)
  have q := good r0 r1
  walk_at "gx"
  refine Atr.sl c hs (i := 0) rfl rfl ?_
  refine for_en (fun i σ H1 => Same H H1 ∧ ∃ (a b : Option V), σ = [some (.ref x), some (.int row), some (.int (rankF row (es.take i) 1)), a, b]) hp ⟨Same.refl _, none, none, rfl⟩ (fun i σ H1 _ z => Same.tup z.1 hp) ?_ ?_
  · rintro i v σ H1 hi ⟨e1, a, b, rfl⟩ T hT
    obtain ⟨y, hy, rfl⟩ := map_get hi
    have e2 : Same H (upd H1 T (.tup [.int (i : Int), .int y])) := e1.trans (same_new hT)
    have hyr := hE.2 y (List.mem_of_getElem? hy)
    have ht : es.take (i + 1) = es.take i ++ [y] := by rw [List.take_succ, hy]; rfl
    have hlen : (es.take i).length = i := by
      obtain ⟨h1, _⟩ := List.getElem?_eq_some_iff.mp hy
      rw [List.length_take]; omega
    have st := rankF_snoc row y (es.take i) 1
    rw [← ht, hlen] at st
    refine ⟨T, _, rfl, SqT.of upd_same, rfl, _, _, rfl, ?_⟩
    refine ⟨_, _, rfl, ?_⟩
    refine ⟨rfl, ?_⟩
    walk_at "gx"
    refine ifd (fun hlt => ?_) (fun hlt => ?_)
    · have hlt' : y < row := hlt
      rw [if_pos hlt'] at st
      walk_at "gx"
      rw [← sgn] at st
      exact ⟨e2, _, _, by rw [st]; rfl⟩
    · have hlt' : ¬ y < row := hlt
      rw [if_neg hlt', Int.add_zero] at st
      exact ⟨e2, _, _, by rw [st]; rfl⟩
  · rintro σ H1 ⟨e1, a, b, rfl⟩
    rw [List.length_map, List.take_length]
    walk_at "gx"
    exact q _ e1
end S
namespace S
open PySem PySem.Spec PyProof.Rows L2
def t_Bitmap_ones (K : Frag) (E : XK) : TS :=
    tRet (dMeth K "Bitmap" (sp_Bitmap_rank K) (EW E) (dVar 0) (tCons (dAt K "size" (dVar 0)) (tNil)))
end S
-- fn: Bitmap.ones
-- law: k11
-- deps: Bm Bitmap_rank
namespace S
open PySem PySem.Spec PyProof.Rows L2
def sp_Bitmap_ones (K : Frag) : Sp := fun vs H Q _ => ∃ (x : Addr) (n : Int) (es : List Int), vs = [.ref x] ∧ Bm K H x n es ∧ n ≤ 2 * 10 ^ 18 ∧ es.length ≤ 50000 ∧ ∀ H', Same H H' → Q (.int (rankF n es 1)) H'
theorem pure_Bitmap_ones {K : Frag} (vs : List V) (H : Hp) (Q : VK) (E : XK) (h : sp_Bitmap_ones K vs H Q E) : t_Bitmap_ones K E { nx := fun _ H' => Q .non H', rt := Q } (start ["self"] vs) H := by
  obtain ⟨x, n, es, rfl, hb, n1, hl, q⟩ := h
  obtain ⟨c, n0, hE, dx, p, hs, hp⟩ := id hb
  refine IsO.of hs ?_
  refine Atr.sl c hs (i := 1) rfl rfl ?_
  exact ⟨x, n, n, es, rfl, hb, n1, hl, fun _ _ => q, fun z => absurd ⟨n0, Int.le_refl _⟩ z⟩
end S
namespace S
open PySem PySem.Spec PyProof.Rows L2
def t_turned_2 (K : Frag) (E : XK) : TS :=
    tRet (tOp (oAdd K) (dTup K (tCons (tC (.int 0)) (tNil))) (tCB (cTuple K) (tCons (dVar 0) (tNil))))
def t_turned_1 (K : Frag) (E : XK) : TS :=
    tSeq (dIfS (dAnd (dCmpT oGt (tCB (cLen K) (tCons (dVar 0) (tNil))) (tC (.int 0))) (dCmpT (oEq K) (tOp (oIx K) (dVar 0) (tC (.int 0))) (tC (.int 0)))) (tRet (tCB (cTuple K) (tCons (tSl (oSl K) (dVar 0) (dPart (tC (.int 1))) (tNoPart)) (tNil)))) (tNext))
    (stop (t_turned_2 K E))
def t_turned (K : Frag) (E : XK) : TS :=
    tSeq (dIfS (dCmpT (oEq K) (dVar 1) (tC (.int 0))) (tRet (dTup K (tNil))) (tNext))
    (stop (t_turned_1 K E))
end S
-- fn: turned
-- law: k03
-- deps: D0
namespace S
open PySem PySem.Spec PyProof.Rows L2
def mTurned (ends : List Int) (size : Int) : List Int := if size = 0 then [] else match ends with
  | 0 :: r => r
  | l => 0 :: l
def sp_turned (K : Frag) : Sp := fun vs H Q _ => ∃ (p : Addr) (ns : List Int) (size : Int), vs = [.ref p, .int size] ∧ SqA K H p (ns.map V.int) ∧ ns.length ≤ 100000 ∧
  ∀ (t : Addr) (H' : Hp), Same H H' → SqT K H' t ((mTurned ns size).map V.int) → Q (.ref t) H'
theorem at_zero {x : V} {xs : List V} : atI (x :: xs) 0 = some x := atI_nat (j := 0) rfl
theorem cut_one {x : V} {xs : List V} : cutV (x :: xs) (some 1) none = xs := by
  unfold cutV
  have e1 : HT.sIx (x :: xs).length 0 (some 1) = 1 := by
    have := HT.sIx_nat (x :: xs).length 0 1
    rw [show (1 : Int) = ((1 : Nat) : Int) from rfl, this, List.length_cons]; omega
  rw [e1, HT.sIx_none]
  simp
theorem pure_turned {K : Frag} (vs : List V) (H : Hp) (Q : VK) (E : XK) (h : sp_turned K vs H Q E) : t_turned K E { nx := fun _ H' => Q .non H', rt := Q } (start ["ends", "size"] vs) H := by
  obtain ⟨p, ns, size, rfl, hp, hl, q⟩ := h
  walk_at "gx"
  refine ifd (fun h0 => ?_) (fun h0 => ?_)
  · walk_at "gx"
    refine ⟨fun t H1 e h => q t H1 e ?_⟩
    have : mTurned ns size = [] := if_pos h0
    rw [this]; exact h
  walk_at "gx"
  rw [List.length_map]
  have rest : (∀ r, ns ≠ 0 :: r) → t_turned_2 K E { nx := fun _ H' => Q .non H', rt := Q } [some (.ref p), some (.int size)] H := by
    intro hn
    have e : mTurned ns size = 0 :: ns := by
      unfold mTurned
      rw [if_neg h0]
      cases ns with
      | nil => rfl
      | cons x r =>
        split
        · rename_i r' e; exact absurd e (hn _)
        · rfl
    walk_at "gx"
    refine ⟨fun t H1 e1 ht => ?_⟩
    have hp1 := Same.sqa e1 hp
    walk_at "gx"
    refine ⟨fun t2 H2 e2 ht2 => ?_⟩
    refine Cat.t (Same.tup e2 ht) ht2 (by simp only [List.length_cons, List.length_nil, List.length_map, sizeLine_eq]; omega) fun t3 H3 e3 ht3 => ?_
    refine q t3 H3 (e1.trans (e2.trans e3)) ?_
    rw [e]; exact ht3
  refine ifd (fun hlen => ?_) (fun hlen => ?_)
  · cases ns with
    | nil => exact absurd hlen (by decide)
    | cons x r =>
      have hx0 : atI ((x :: r).map V.int) 0 = some (.int x) := at_zero
      walk_at "gx"
      refine ifd (fun hx => ?_) (fun hx => ?_)
      · subst hx
        have e : mTurned (0 :: r) size = r := if_neg h0
        rcases hp with hp | hp
        · refine Cut.l hp fun p1 hp1 => ?_
          rw [List.map_cons, cut_one]
          walk_at "gx"
          refine ⟨fun t2 H2 e2 ht2 => q t2 H2 ((same_new hp1).trans e2) (by rw [e]; exact ht2)⟩
        · refine Cut.t hp fun p1 H1 e1 hp1 => ?_
          rw [List.map_cons, cut_one] at hp1
          walk_at "gx"
          refine ⟨fun t2 H2 e2 ht2 => q t2 H2 (e1.trans e2) (by rw [e]; exact ht2)⟩
      · exact ⟨rest fun r' e => hx (List.cons.inj e).1⟩
  · refine ⟨rest fun r' e => ?_⟩
    subst e
    exact hlen (by show (0 : Int) < ((r'.length + 1 : Nat) : Int); omega)
end S
-- deps: D0 D1 turned _law_in
namespace S
open PySem PySem.Spec PyProof.Rows L2
theorem turned_zero {ns : List Int} : mTurned ns 0 = [] := if_pos rfl
theorem turned_some {r : List Int} {size : Int} (h : size ≠ 0) : mTurned (0 :: r) size = r := if_neg h
theorem turned_none {ns : List Int} {size : Int} (h : size ≠ 0) (hn : ∀ r, ns ≠ 0 :: r) : mTurned ns size = 0 :: ns := by
  unfold mTurned
  rw [if_neg h]
  split
  · rename_i r e; exact absurd rfl (hn _)
  · rfl
/-- the three ways of turned -/
theorem turned_ways {size : Int} {ns : List Int} (h : Ends size ns) : (size = 0 ∧ ns = [] ∧ mTurned ns size = []) ∨ (size ≠ 0 ∧ ∃ r, ns = 0 :: r ∧ mTurned ns size = r ∧ (∀ x ∈ r, 0 < x)) ∨ (size ≠ 0 ∧ mTurned ns size = 0 :: ns ∧ (∀ x ∈ ns, 0 < x)) := by
  by_cases h0 : size = 0
  · left
    subst h0
    refine ⟨rfl, ?_, turned_zero⟩
    cases ns with
    | nil => rfl
    | cons x r => have := h.2 x (List.mem_cons_self ..); omega
  · right
    by_cases hn : ∃ r, ns = 0 :: r
    · obtain ⟨r, rfl⟩ := hn
      exact .inl ⟨h0, r, rfl, turned_some h0, fun x hx => (List.pairwise_cons.mp h.1).1 x hx⟩
    · refine .inr ⟨h0, turned_none h0 fun r e => hn ⟨r, e⟩, fun x hx => ?_⟩
      cases ns with
      | nil => cases hx
      | cons y r =>
        have hy := h.2 y (List.mem_cons_self ..)
        have hy0 : y ≠ 0 := fun e => hn ⟨r, by rw [e]⟩
        rcases List.mem_cons.mp hx with rfl | hx
        · omega
        · have := (List.pairwise_cons.mp h.1).1 x hx; omega
theorem turned_ends {size : Int} {ns : List Int} (h : Ends size ns) (hs : 0 ≤ size) : Ends size (mTurned ns size) := by
  rcases turned_ways h with ⟨_, _, e⟩ | ⟨h0, r, e1, e, hp⟩ | ⟨h0, e, hp⟩
  · rw [e]; exact ⟨.nil, fun _ z => nomatch z⟩
  · rw [e]; subst e1; exact ⟨(List.pairwise_cons.mp h.1).2, fun x hx => h.2 x (List.mem_cons_of_mem _ hx)⟩
  · rw [e]
    refine ⟨List.pairwise_cons.mpr ⟨hp, h.1⟩, fun x hx => ?_⟩
    rcases List.mem_cons.mp hx with rfl | hx
    · omega
    · exact h.2 x hx
theorem turned_in {size row : Int} {ns : List Int} (h : Ends size ns) (h0 : 0 ≤ row) (h1 : row < size) : inB (mTurned ns size) row = !(inB ns row) := by
  rcases turned_ways h with ⟨e, _, _⟩ | ⟨_, r, e1, e, hp⟩ | ⟨_, e, hp⟩
  · omega
  · rw [e, e1, inB_cons, if_pos h0, Bool.not_not]
  · rw [e, inB_cons, if_pos h0]
theorem turned_twice {size : Int} {ns : List Int} (h : Ends size ns) : mTurned (mTurned ns size) size = ns := by
  rcases turned_ways h with ⟨e, e2, e3⟩ | ⟨h0, r, e1, e, hp⟩ | ⟨h0, e, hp⟩
  · rw [e2, e, turned_zero]
  · rw [e, e1]
    exact turned_none h0 fun r' z => by subst z; have := hp 0 (List.mem_cons_self ..); omega
  · rw [e]; exact turned_some h0
theorem turned_len {size : Int} {ns : List Int} : (mTurned ns size).length ≤ ns.length + 1 := by
  unfold mTurned
  split
  · simp
  · split <;> simp <;> omega
end S
-- deps: Bm
namespace S
open PySem PySem.Spec PyProof.Rows L2
theorem isi_bm {K : Frag} {H : Hp} {a : Addr} {n : Int} {es : List Int} {k : Bool → Prop} (h : Bm K H a n es) (q : k true) : Isi K H (.ref a) (.ref (He.ga K "Bitmap")) k := by
  obtain ⟨c, _, _, dx, p, hs, _⟩ := h
  exact ⟨.inr ⟨a, _, dx, _, true, rfl, hs, c.sc, c.si, by rw [mf_kit c.mf c.mf]; rfl, q⟩⟩
end S
namespace S
open PySem PySem.Spec PyProof.Rows L2
def t_Bitmap_paired_1 (K : Frag) (E : XK) : TS :=
    tRet (dGiv (CF K "Bitmap" ["ends", "size"]) (dMake K "Bitmap" (sp_Bitmapdd_initdd K) (EW E) (tCons (dAt K "size" (dVar 0)) (tCons (dCall (sp_swept K) (EW E) (tCons (dAt K "ends" (dVar 0)) (tCons (dAt K "ends" (dVar 1)) (tCons (dVar 2) (tNil))))) (tNil)))))
def t_Bitmap_paired (K : Frag) (E : XK) : TS :=
    tSeq (dIfS (dCmpT (oNe K) (dAt K "size" (dVar 0)) (dAt K "size" (dVar 1))) (dGivS (ExF K "SizesDiffer" ["SliceError"]) (dRaise K "SizesDiffer" (WD E))) (tNext))
    (stop (t_Bitmap_paired_1 K E))
end S
-- fn: Bitmap.paired
-- law: k05
-- deps: Bm Bitmap_init swept turned turned_law isi_bm
namespace S
open PySem PySem.Spec PyProof.Rows L2
def joinE (r : Bool → Bool → Bool) (es fs : List Int) : List Int := sweep r es fs false false
theorem join_ends {r : Bool → Bool → Bool} {n : Int} {es fs : List Int} (h1 : Ends n es) (h2 : Ends n fs) : Ends n (joinE r es fs) := by
  obtain ⟨a, b, _⟩ := sweep_law r _ es fs false false 0 (Nat.le_refl _) h1.1 h2.1 (fun x hx => (h1.2 x hx).1) (fun x hx => (h2.2 x hx).1)
  refine ⟨a, fun z hz => ?_⟩
  obtain ⟨c, d | d⟩ := b z hz
  · exact ⟨c, (h1.2 z d).2⟩
  · exact ⟨c, (h2.2 z d).2⟩
theorem join_in {r : Bool → Bool → Bool} {n : Int} {es fs : List Int} (h1 : Ends n es) (h2 : Ends n fs) (h0 : r false false = false) (row : Int) : inB (joinE r es fs) row = r (inB es row) (inB fs row) := by
  obtain ⟨_, _, c⟩ := sweep_law r _ es fs false false 0 (Nat.le_refl _) h1.1 h2.1 (fun x hx => (h1.2 x hx).1) (fun x hx => (h2.2 x hx).1)
  have z := c row
  rw [h0] at z
  show inB (sweep r es fs false false) row = _
  simpa using z
theorem join_len {r : Bool → Bool → Bool} {es fs : List Int} : (joinE r es fs).length ≤ es.length + fs.length := sweep_len r _ es fs false false (Nat.le_refl _)
/-- what a joining of two bitmaps promises -/
def spJoin (K : Frag) (r : Bool → Bool → Bool) (x y : Addr) (H : Hp) (Q : VK) (E : XK) : Prop := ∃ (n m : Int) (es fs : List Int), Bm K H x n es ∧ Bm K H y m fs ∧ es.length ≤ 50000 ∧ fs.length ≤ 50000 ∧
  (n = m → ∀ z H', Same H H' → H z = none → Bm K H' z n (joinE r es fs) → Q (.ref z) H') ∧ (n ≠ m → XF K "SizesDiffer" → E (.ref (He.ga K "SizesDiffer")) none H)
def sp_Bitmap_paired (K : Frag) : Sp := fun vs H Q E => ∃ (x y t : Addr) (r : Bool → Bool → Bool), vs = [.ref x, .ref y, .ref t] ∧ SqT K H t (ruleV r) ∧ r false false = false ∧ spJoin K r x y H Q E
theorem pure_Bitmap_paired {K : Frag} (vs : List V) (H : Hp) (Q : VK) (E : XK) (h : sp_Bitmap_paired K vs H Q E) : t_Bitmap_paired K E { nx := fun _ H' => Q .non H', rt := Q } (start ["self", "other", "rule"] vs) H := by
  obtain ⟨x, y, t, r, rfl, ht, h0, n, m, es, fs, hb, hb2, l1, l2, good, bad⟩ := h
  obtain ⟨c, n0, hE, dx, p, hs, hp⟩ := id hb
  obtain ⟨_, m0, hF, dy, q, hs2, hq⟩ := id hb2
  walk_at "gx"
  refine Atr.sl c hs (i := 1) rfl rfl ?_
  walk_at "gx"
  refine Atr.sl c hs2 (i := 1) rfl rfl ?_
  refine ifn (fun hn => ?_) (fun hn => ?_)
  · exact bad hn
  · subst hn
    walk_at "gx"
    refine fun _ => ?_
    refine Atr.sl c hs (i := 1) rfl rfl ?_
    walk_at "gx"
    refine Atr.sl c hs (i := 0) rfl rfl ?_
    walk_at "gx"
    refine Atr.sl c hs2 (i := 0) rfl rfl ?_
    refine ⟨p, q, t, es, fs, r, rfl, .inr hp, .inr hq, ht, h0, by omega, by omega, fun u H1 e1 hu => ?_⟩
    refine mk_bitmap c (.inr hu) (fun _ _ z H2 e2 nz hz => ?_) (fun nb => absurd ⟨n0, join_ends hE hF⟩ nb)
    refine good rfl z H2 (e1.trans e2) ?_ hz
    cases e : H z with
    | none => rfl
    | some o => rw [e1 _ _ e] at nz; cases nz
end S
namespace S
open PySem PySem.Spec PyProof.Rows L2
def t_Bitmapdd_anddd (K : Frag) (E : XK) : TS :=
    tRet (dMeth K "Bitmap" (sp_Bitmap_paired K) (EW E) (dVar 0) (tCons (dVar 1) (tCons (dGiv (TupG K "AND" [V.int 0, V.int 0, V.int 0, V.int 1]) (tC (.ref (He.ga K "AND")))) (tNil))))
end S
namespace S
open PySem PySem.Spec PyProof.Rows L2
def t_Bitmapdd_ordd (K : Frag) (E : XK) : TS :=
    tRet (dMeth K "Bitmap" (sp_Bitmap_paired K) (EW E) (dVar 0) (tCons (dVar 1) (tCons (dGiv (TupG K "OR" [V.int 0, V.int 1, V.int 1, V.int 1]) (tC (.ref (He.ga K "OR")))) (tNil))))
end S
namespace S
open PySem PySem.Spec PyProof.Rows L2
def t_Bitmapdd_xordd (K : Frag) (E : XK) : TS :=
    tRet (dMeth K "Bitmap" (sp_Bitmap_paired K) (EW E) (dVar 0) (tCons (dVar 1) (tCons (dGiv (TupG K "XOR" [V.int 0, V.int 1, V.int 1, V.int 0]) (tC (.ref (He.ga K "XOR")))) (tNil))))
end S
namespace S
open PySem PySem.Spec PyProof.Rows L2
def t_Bitmapdd_subdd (K : Frag) (E : XK) : TS :=
    tRet (dMeth K "Bitmap" (sp_Bitmap_paired K) (EW E) (dVar 0) (tCons (dVar 1) (tCons (dGiv (TupG K "LESS" [V.int 0, V.int 0, V.int 1, V.int 0]) (tC (.ref (He.ga K "LESS")))) (tNil))))
end S
namespace S
open PySem PySem.Spec PyProof.Rows L2
def t_Bitmapdd_invertdd (K : Frag) (E : XK) : TS :=
    tRet (dGiv (CF K "Bitmap" ["ends", "size"]) (dMake K "Bitmap" (sp_Bitmapdd_initdd K) (EW E) (tCons (dAt K "size" (dVar 0)) (tCons (dCall (sp_turned K) (EW E) (tCons (dAt K "ends" (dVar 0)) (tCons (dAt K "size" (dVar 0)) (tNil)))) (tNil)))))
end S
namespace S
open PySem PySem.Spec PyProof.Rows L2
def t_Bitmapdd_eqdd (K : Frag) (E : XK) : TS :=
    tRet (dAndV (dGiv (MF K "Bitmap" [] ["object"]) (tCB (cIsi K) (tCons (dVar 1) (tCons (tC (.ref (He.ga K "Bitmap"))) (tNil))))) (dAndV (tOp (oEq K) (dAt K "size" (dVar 0)) (dAt K "size" (dVar 1))) (tOp (oEq K) (dAt K "ends" (dVar 0)) (dAt K "ends" (dVar 1)))))
end S
namespace S
open PySem PySem.Spec PyProof.Rows L2
def t_Bitmapdd_booldd (K : Frag) (E : XK) : TS :=
    tRet (tCB (cBool K) (tCons (dAt K "ends" (dVar 0)) (tNil)))
end S
-- fn: Bitmap.__and__ Bitmap.__or__ Bitmap.__xor__ Bitmap.__sub__ Bitmap.__invert__ Bitmap.__eq__ Bitmap.__bool__
-- law: k05
-- deps: Bm Bitmap_init swept turned turned_law isi_bm Bitmap_paired
namespace S
open PySem PySem.Spec PyProof.Rows L2
def rAnd (a b : Bool) : Bool := a && b
def rOr (a b : Bool) : Bool := a || b
def rXor (a b : Bool) : Bool := a ^^ b
def rLess (a b : Bool) : Bool := a && !b
def spOp (K : Frag) (r : Bool → Bool → Bool) : Sp := fun vs H Q E => ∃ (x y : Addr), vs = [.ref x, .ref y] ∧ spJoin K r x y H Q E
def sp_Bitmapdd_anddd (K : Frag) : Sp := fun vs H Q E => ∃ (x y : Addr), vs = [.ref x, .ref y] ∧ spJoin K rAnd x y H Q E
def sp_Bitmapdd_ordd (K : Frag) : Sp := fun vs H Q E => ∃ (x y : Addr), vs = [.ref x, .ref y] ∧ spJoin K rOr x y H Q E
def sp_Bitmapdd_xordd (K : Frag) : Sp := fun vs H Q E => ∃ (x y : Addr), vs = [.ref x, .ref y] ∧ spJoin K rXor x y H Q E
def sp_Bitmapdd_subdd (K : Frag) : Sp := fun vs H Q E => ∃ (x y : Addr), vs = [.ref x, .ref y] ∧ spJoin K rLess x y H Q E
theorem join_slt {K : Frag} {r : Bool → Bool → Bool} {x y : Addr} {H : Hp} {Q : VK} {E : XK} (h : spJoin K r x y H Q E) : ∃ dx vs, SlX.Slt H x (He.ga K "Bitmap") dx vs := by
  obtain ⟨n, m, es, fs, ⟨_, _, _, dx, p, hs, _⟩, _⟩ := h
  exact ⟨dx, _, hs⟩
theorem pure_Bitmapdd_anddd {K : Frag} (vs : List V) (H : Hp) (Q : VK) (E : XK) (h : sp_Bitmapdd_anddd K vs H Q E) : t_Bitmapdd_anddd K E { nx := fun _ H' => Q .non H', rt := Q } (start ["self", "other"] vs) H := by
  obtain ⟨x, y, rfl, h⟩ := h
  obtain ⟨dx, _, hs⟩ := join_slt h
  refine IsO.of hs ?_
  refine fun g => ?_
  exact ⟨x, y, _, rAnd, rfl, g _, rfl, h⟩
theorem pure_Bitmapdd_ordd {K : Frag} (vs : List V) (H : Hp) (Q : VK) (E : XK) (h : sp_Bitmapdd_ordd K vs H Q E) : t_Bitmapdd_ordd K E { nx := fun _ H' => Q .non H', rt := Q } (start ["self", "other"] vs) H := by
  obtain ⟨x, y, rfl, h⟩ := h
  obtain ⟨dx, _, hs⟩ := join_slt h
  refine IsO.of hs ?_
  refine fun g => ?_
  exact ⟨x, y, _, rOr, rfl, g _, rfl, h⟩
theorem pure_Bitmapdd_xordd {K : Frag} (vs : List V) (H : Hp) (Q : VK) (E : XK) (h : sp_Bitmapdd_xordd K vs H Q E) : t_Bitmapdd_xordd K E { nx := fun _ H' => Q .non H', rt := Q } (start ["self", "other"] vs) H := by
  obtain ⟨x, y, rfl, h⟩ := h
  obtain ⟨dx, _, hs⟩ := join_slt h
  refine IsO.of hs ?_
  refine fun g => ?_
  exact ⟨x, y, _, rXor, rfl, g _, rfl, h⟩
theorem pure_Bitmapdd_subdd {K : Frag} (vs : List V) (H : Hp) (Q : VK) (E : XK) (h : sp_Bitmapdd_subdd K vs H Q E) : t_Bitmapdd_subdd K E { nx := fun _ H' => Q .non H', rt := Q } (start ["self", "other"] vs) H := by
  obtain ⟨x, y, rfl, h⟩ := h
  obtain ⟨dx, _, hs⟩ := join_slt h
  refine IsO.of hs ?_
  refine fun g => ?_
  exact ⟨x, y, _, rLess, rfl, g _, rfl, h⟩
def sp_Bitmapdd_invertdd (K : Frag) : Sp := fun vs H Q _ => ∃ (x : Addr) (n : Int) (es : List Int), vs = [.ref x] ∧ Bm K H x n es ∧ es.length ≤ 50000 ∧ ∀ z H', Same H H' → H z = none → Bm K H' z n (mTurned es n) → Q (.ref z) H'
theorem pure_Bitmapdd_invertdd {K : Frag} (vs : List V) (H : Hp) (Q : VK) (E : XK) (h : sp_Bitmapdd_invertdd K vs H Q E) : t_Bitmapdd_invertdd K E { nx := fun _ H' => Q .non H', rt := Q } (start ["self"] vs) H := by
  obtain ⟨x, n, es, rfl, hb, l, q⟩ := h
  obtain ⟨c, n0, hE, dx, p, hs, hp⟩ := id hb
  refine fun _ => ?_
  refine Atr.sl c hs (i := 1) rfl rfl ?_
  walk_at "gx"
  refine Atr.sl c hs (i := 0) rfl rfl ?_
  walk_at "gx"
  refine Atr.sl c hs (i := 1) rfl rfl ?_
  refine ⟨p, es, n, rfl, .inr hp, by omega, fun u H1 e1 hu => ?_⟩
  refine mk_bitmap c (.inr hu) (fun _ _ z H2 e2 nz hz => ?_) (fun nb => absurd ⟨n0, turned_ends hE n0⟩ nb)
  refine q z H2 (e1.trans e2) ?_ hz
  cases e : H z with
  | none => rfl
  | some o => rw [e1 _ _ e] at nz; cases nz
def sp_Bitmapdd_booldd (K : Frag) : Sp := fun vs H Q _ => ∃ (x : Addr) (n : Int) (es : List Int), vs = [.ref x] ∧ Bm K H x n es ∧ Q (.bl (decide (es ≠ []))) H
theorem pure_Bitmapdd_booldd {K : Frag} (vs : List V) (H : Hp) (Q : VK) (E : XK) (h : sp_Bitmapdd_booldd K vs H Q E) : t_Bitmapdd_booldd K E { nx := fun _ H' => Q .non H', rt := Q } (start ["self"] vs) H := by
  obtain ⟨x, n, es, rfl, hb, q⟩ := h
  obtain ⟨c, n0, hE, dx, p, hs, hp⟩ := id hb
  refine Atr.sl c hs (i := 0) rfl rfl ?_
  walk_at "gx"
  have e : decide (es.map V.int ≠ []) = decide (es ≠ []) := by cases es <;> rfl
  rw [e]
  exact q
theorem shp_intsT (ns : List Int) : SeqAt.shaped (.tuple (ns.map PyData.int)) = true := by
  unfold SeqAt.shaped
  have e1 : PyData.canLay0 (.tuple (ns.map PyData.int)) = true := can_ints ns
  have e2 : PyData.depth (.tuple (ns.map PyData.int)) = 1 := by show PyData.depthAll _ + 1 = 1; rw [dep_ints]
  rw [e1, e2]; rfl
theorem eqd_tt {K : Frag} {H : Hp} {a b : Addr} {xs ys : List Int} {k : Bool → Prop} (h : SqT K H a (xs.map V.int)) (h2 : SqT K H b (ys.map V.int)) (q : k (decide (xs = ys))) : EqD K H (.ref a) (.ref b) k :=
  ⟨_, _, .tup h (dp_ints xs), .tup h2 (dp_ints ys), shp_intsT xs, shp_intsT ys, by
    have e : PyData.eqv (.tuple (xs.map PyData.int)) (.tuple (ys.map PyData.int)) = decide (xs = ys) := eqv_ints xs ys
    rw [e]; exact q⟩
def sp_Bitmapdd_eqdd (K : Frag) : Sp := fun vs H Q _ => ∃ (x y : Addr) (n m : Int) (es fs : List Int), vs = [.ref x, .ref y] ∧ Bm K H x n es ∧ Bm K H y m fs ∧ Q (.bl (decide (n = m ∧ es = fs))) H
theorem pure_Bitmapdd_eqdd {K : Frag} (vs : List V) (H : Hp) (Q : VK) (E : XK) (h : sp_Bitmapdd_eqdd K vs H Q E) : t_Bitmapdd_eqdd K E { nx := fun _ H' => Q .non H', rt := Q } (start ["self", "other"] vs) H := by
  obtain ⟨x, y, n, m, es, fs, rfl, hb, hb2, q⟩ := h
  obtain ⟨c, n0, hE, dx, p, hs, hp⟩ := id hb
  obtain ⟨_, m0, hF, dy, p2, hs2, hp2⟩ := id hb2
  refine fun _ => ?_
  refine isi_bm hb2 ?_
  refine Atr.sl c hs (i := 1) rfl rfl ?_
  refine Atr.sl c hs2 (i := 1) rfl rfl ?_
  refine ifd (fun h1 => ?_) (fun h1 => ?_)
  · refine Atr.sl c hs (i := 0) rfl rfl ?_
    refine Atr.sl c hs2 (i := 0) rfl rfl ?_
    refine eqd_tt hp hp2 ?_
    have e : decide (n = m ∧ es = fs) = decide (es = fs) := by simp [h1]
    rw [e] at q
    exact q
  · have e : decide (n = m ∧ es = fs) = false := decide_eq_false fun z => h1 z.1
    rw [e] at q
    exact q
end S
-- deps: Bm Bitmap_ops Bitmap_rank Bitmap_ones
/-! ## bitmaps told by their rows; counts -/
namespace S
open PySem PySem.Spec PyProof.Rows L2
theorem uniq_ends {n : Int} : ∀ (es fs : List Int) (lo : Int), es.Pairwise (· < ·) → fs.Pairwise (· < ·) → (∀ x ∈ es, lo ≤ x ∧ x < n) → (∀ x ∈ fs, lo ≤ x ∧ x < n) → (∀ row, lo ≤ row → row < n → inB es row = inB fs row) → es = fs
  | [], [], _, _, _, _, _, _ => rfl
  | [], y :: r, lo, _, h2, _, b2, h => by
    have hy := b2 y (List.mem_cons_self ..)
    have z := h y hy.1 hy.2
    rw [inB_cons, if_pos (Int.le_refl _), inB_before (List.pairwise_cons.mp h2).1] at z
    cases z
  | x :: r, [], lo, h1, _, b1, _, h => by
    have hx := b1 x (List.mem_cons_self ..)
    have z := h x hx.1 hx.2
    rw [inB_cons, if_pos (Int.le_refl _), inB_before (List.pairwise_cons.mp h1).1] at z
    cases z
  | x :: r, y :: r', lo, h1, h2, b1, b2, h => by
    have hx := b1 x (List.mem_cons_self ..)
    have hy := b2 y (List.mem_cons_self ..)
    have g1 := (List.pairwise_cons.mp h1).1
    have g2 := (List.pairwise_cons.mp h2).1
    have e : x = y := by
      rcases Int.lt_trichotomy x y with hl | hl | hl
      · have z := h x hx.1 hx.2
        rw [inB_cons, if_pos (Int.le_refl _), inB_before g1, inB_cons, if_neg (by omega), inB_before fun w hw => by have := g2 w hw; omega] at z
        cases z
      · exact hl
      · have z := h y hy.1 hy.2
        rw [inB_cons, if_neg (by omega), inB_before fun w hw => by have := g1 w hw; omega, inB_cons, if_pos (Int.le_refl _), inB_before g2] at z
        cases z
    subst e
    rw [uniq_ends r r' (x + 1) (List.pairwise_cons.mp h1).2 (List.pairwise_cons.mp h2).2 (fun w hw => ⟨by have := g1 w hw; omega, (b1 w (List.mem_cons_of_mem _ hw)).2⟩) (fun w hw => ⟨by have := g2 w hw; omega, (b2 w (List.mem_cons_of_mem _ hw)).2⟩) fun row a b => by
      have z := h row (by omega) b
      rw [inB_cons, inB_cons, if_pos (by omega), if_pos (by omega)] at z
      cases u : inB r row <;> cases v : inB r' row <;> simp [u, v] at z ⊢]
/-- a bitmap whose rows are told by f, at most m ends -/
def Bx (K : Frag) (H : Hp) (x : Addr) (n : Int) (f : Int → Bool) (m : Nat) : Prop := ∃ es, Bm K H x n es ∧ es.length ≤ m ∧ ∀ row, 0 ≤ row → row < n → inB es row = f row
theorem Bx.same {K : Frag} {H H' : Hp} {x : Addr} {n : Int} {f : Int → Bool} {m : Nat} (h : Bx K H x n f m) (e : Same H H') : Bx K H' x n f m := let ⟨es, a, b, c⟩ := h; ⟨es, a.same e, b, c⟩
theorem Bx.slt {K : Frag} {H : Hp} {x : Addr} {n : Int} {f : Int → Bool} {m : Nat} (h : Bx K H x n f m) : ∃ dx vs, SlX.Slt H x (He.ga K "Bitmap") dx vs := let ⟨_, ⟨_, _, _, dx, _, a, _⟩, _⟩ := h; ⟨dx, _, a⟩
section
variable {K : Frag} {H : Hp} {x y : Addr} {n : Int} {f g : Int → Bool} {m1 m2 : Nat} {Q : VK} {E : XK}
theorem spJoin_of {r : Bool → Bool → Bool} (h1 : Bx K H x n f m1) (h2 : Bx K H y n g m2) (l1 : m1 ≤ 50000) (l2 : m2 ≤ 50000) (h0 : r false false = false) (q : ∀ z H', Same H H' → Bx K H' z n (fun row => r (f row) (g row)) (m1 + m2) → Q (.ref z) H') : spJoin K r x y H Q E := by
  obtain ⟨es, b1, a1, c1⟩ := h1
  obtain ⟨fs, b2, a2, c2⟩ := h2
  refine ⟨n, n, es, fs, b1, b2, by omega, by omega, fun _ z H' e _ hz => q z H' e ⟨_, hz, ?_, fun row r0 r1 => ?_⟩, fun z => absurd rfl z⟩
  · have := join_len (r := r) (es := es) (fs := fs); omega
  · rw [join_in b1.2.2.1 b2.2.2.1 h0, c1 row r0 r1, c2 row r0 r1]
theorem isO2 {P : Prop} (h1 : Bx K H x n f m1) (h2 : Bx K H y n g m2) (q : P) : IsO K H "Bitmap" x (IsO K H "Bitmap" y P) := by
  obtain ⟨dx, vs, a⟩ := h1.slt
  obtain ⟨dy, ws, b⟩ := h2.slt
  exact .of a (.of b q)
theorem bx_and (h1 : Bx K H x n f m1) (h2 : Bx K H y n g m2) (l1 : m1 ≤ 50000) (l2 : m2 ≤ 50000) (q : ∀ z H', Same H H' → Bx K H' z n (fun row => rAnd (f row) (g row)) (m1 + m2) → Q (.ref z) H') : IsO K H "Bitmap" x (IsO K H "Bitmap" y (sp_Bitmapdd_anddd K [.ref x, .ref y] H Q E)) := isO2 h1 h2 ⟨x, y, rfl, spJoin_of h1 h2 l1 l2 rfl q⟩
theorem bx_or (h1 : Bx K H x n f m1) (h2 : Bx K H y n g m2) (l1 : m1 ≤ 50000) (l2 : m2 ≤ 50000) (q : ∀ z H', Same H H' → Bx K H' z n (fun row => rOr (f row) (g row)) (m1 + m2) → Q (.ref z) H') : IsO K H "Bitmap" x (IsO K H "Bitmap" y (sp_Bitmapdd_ordd K [.ref x, .ref y] H Q E)) := isO2 h1 h2 ⟨x, y, rfl, spJoin_of h1 h2 l1 l2 rfl q⟩
theorem bx_xor (h1 : Bx K H x n f m1) (h2 : Bx K H y n g m2) (l1 : m1 ≤ 50000) (l2 : m2 ≤ 50000) (q : ∀ z H', Same H H' → Bx K H' z n (fun row => rXor (f row) (g row)) (m1 + m2) → Q (.ref z) H') : IsO K H "Bitmap" x (IsO K H "Bitmap" y (sp_Bitmapdd_xordd K [.ref x, .ref y] H Q E)) := isO2 h1 h2 ⟨x, y, rfl, spJoin_of h1 h2 l1 l2 rfl q⟩
theorem bx_sub (h1 : Bx K H x n f m1) (h2 : Bx K H y n g m2) (l1 : m1 ≤ 50000) (l2 : m2 ≤ 50000) (q : ∀ z H', Same H H' → Bx K H' z n (fun row => rLess (f row) (g row)) (m1 + m2) → Q (.ref z) H') : IsO K H "Bitmap" x (IsO K H "Bitmap" y (sp_Bitmapdd_subdd K [.ref x, .ref y] H Q E)) := isO2 h1 h2 ⟨x, y, rfl, spJoin_of h1 h2 l1 l2 rfl q⟩
theorem bx_inv (h1 : Bx K H x n f m1) (l1 : m1 ≤ 50000) (q : ∀ z H', Same H H' → Bx K H' z n (fun row => !(f row)) (m1 + 1) → Q (.ref z) H') : IsO K H "Bitmap" x (sp_Bitmapdd_invertdd K [.ref x] H Q E) := by
  obtain ⟨dx, vs, a⟩ := h1.slt
  obtain ⟨es, b1, a1, c1⟩ := h1
  refine .of a ⟨x, n, es, rfl, b1, by omega, fun z H' e _ hz => q z H' e ⟨_, hz, ?_, fun row r0 r1 => ?_⟩⟩
  · have := turned_len (ns := es) (size := n); omega
  · rw [turned_in b1.2.2.1 r0 r1, c1 row r0 r1]
end
/-! ### counts -/
theorem add4 (a b c d : Int) : (a + b) + (c + d) = (a + c) + (b + d) := by omega
def cntF (f : Int → Bool) : Nat → Int
  | 0 => 0
  | k + 1 => cntF f k + (if f k then 1 else 0)
def altF (row : Int) : List Int → Int → Int
  | [], _ => 0
  | e :: r, s => (if e ≤ row then s else 0) + altF row r (-s)
theorem rank_step (row : Int) : ∀ (es : List Int) (s : Int), rankF (row + 1) es s = rankF row es s + altF row es s
  | [], _ => rfl
  | e :: r, s => by
    show (if e < row + 1 then (row + 1 - e) * s else 0) + rankF (row + 1) r (-s) = ((if e < row then (row - e) * s else 0) + rankF row r (-s)) + ((if e ≤ row then s else 0) + altF row r (-s))
    rw [rank_step row r (-s)]
    have k : (if e < row + 1 then (row + 1 - e) * s else 0) = (if e < row then (row - e) * s else 0) + (if e ≤ row then s else 0) := by
      by_cases h : e < row
      · rw [if_pos (by omega), if_pos h, if_pos (by omega), show row + 1 - e = (row - e) + 1 by omega, Int.add_mul, Int.one_mul]
      · by_cases h2 : e = row
        · rw [if_pos (by omega), if_neg h, if_pos (by omega), h2, show row + 1 - row = 1 by omega, Int.one_mul, Int.zero_add]
        · rw [if_neg (by omega), if_neg h, if_neg (by omega)]; rfl
    rw [k]; omega
theorem alt_in (row : Int) : ∀ (es : List Int) (s : Int), es.Pairwise (· < ·) → altF row es s = if inB es row then s else 0
  | [], s, _ => rfl
  | e :: r, s, h => by
    obtain ⟨h1, h2⟩ := List.pairwise_cons.mp h
    show (if e ≤ row then s else 0) + altF row r (-s) = _
    rw [alt_in row r (-s) h2, inB_cons]
    by_cases he : e ≤ row
    · rw [if_pos he, if_pos he]
      cases inB r row <;> simp <;> omega
    · rw [if_neg he, if_neg he, inB_before fun w hw => by have := h1 w hw; omega]; rfl
theorem rank_zero : ∀ (es : List Int) (s : Int), (∀ x ∈ es, 0 ≤ x) → rankF 0 es s = 0
  | [], _, _ => rfl
  | e :: r, s, h => by
    show (if e < 0 then (0 - e) * s else 0) + rankF 0 r (-s) = 0
    rw [if_neg (by have := h e (List.mem_cons_self ..); omega), rank_zero r (-s) fun x hx => h x (List.mem_cons_of_mem _ hx)]; rfl
theorem rank_cnt {n : Int} {es : List Int} (h : Ends n es) : ∀ k : Nat, rankF (k : Int) es 1 = cntF (inB es) k
  | 0 => rank_zero es 1 fun x hx => (h.2 x hx).1
  | k + 1 => by
    show rankF ((k : Int) + 1) es 1 = cntF (inB es) k + _
    rw [rank_step, rank_cnt h k, alt_in _ _ _ h.1]
theorem cnt_congr {f g : Int → Bool} : ∀ k : Nat, (∀ j : Nat, j < k → f j = g j) → cntF f k = cntF g k
  | 0, _ => rfl
  | k + 1, h => by
    show cntF f k + _ = cntF g k + _
    rw [cnt_congr k fun j hj => h j (by omega), h k (by omega)]
theorem cnt_two (f g : Int → Bool) : ∀ k : Nat, cntF f k + cntF g k = cntF (fun r => rOr (f r) (g r)) k + cntF (fun r => rAnd (f r) (g r)) k
  | 0 => rfl
  | k + 1 => by
    have ih := cnt_two f g k
    have e : (if f k then (1 : Int) else 0) + (if g k then 1 else 0) = (if rOr (f k) (g k) then 1 else 0) + (if rAnd (f k) (g k) then 1 else 0) := by cases f k <;> cases g k <;> rfl
    exact (add4 _ _ _ _).trans ((congr (congrArg (· + ·) ih) e).trans (add4 _ _ _ _))
theorem cnt_not (f : Int → Bool) : ∀ k : Nat, cntF f k + cntF (fun r => !(f r)) k = k
  | 0 => rfl
  | k + 1 => by
    have ih := cnt_not f k
    have e : (if f k then (1 : Int) else 0) + (if !(f k) then 1 else 0) = 1 := by cases f k <;> rfl
    exact (add4 _ _ _ _).trans (congr (congrArg (· + ·) ih) e)
theorem cnt_all {f : Int → Bool} (h : ∀ r, f r = true) : ∀ k : Nat, cntF f k = k
  | 0 => rfl
  | k + 1 => by
    show cntF f k + _ = ((k + 1 : Nat) : Int)
    rw [cnt_all h k, h]; simp
theorem cnt_none {f : Int → Bool} (h : ∀ r, f r = false) : ∀ k : Nat, cntF f k = 0
  | 0 => rfl
  | k + 1 => by
    show cntF f k + _ = 0
    rw [cnt_none h k, h]; simp
section
variable {K : Frag} {H : Hp} {x y : Addr} {n : Int} {f g : Int → Bool} {m1 m2 : Nat} {Q : VK} {E : XK}
theorem bx_ones (h1 : Bx K H x n f m1) (l1 : m1 ≤ 50000) (hn : n ≤ 2 * 10 ^ 18) (q : ∀ H', Same H H' → Q (.int (cntF f n.toNat)) H') : IsO K H "Bitmap" x (sp_Bitmap_ones K [.ref x] H Q E) := by
  obtain ⟨dx, vs, a⟩ := h1.slt
  obtain ⟨es, b1, a1, c1⟩ := h1
  have n0 := b1.2.1
  refine .of a ⟨x, n, es, rfl, b1, hn, by omega, fun H' e => ?_⟩
  have z := rank_cnt b1.2.2.1 n.toNat
  rw [Int.toNat_of_nonneg n0, cnt_congr n.toNat fun j hj => c1 j (by omega) (by omega)] at z
  rw [z]
  exact q H' e
theorem bx_rank {row : Int} (h1 : Bx K H x n f m1) (l1 : m1 ≤ 50000) (hn : n ≤ 2 * 10 ^ 18) (r0 : 0 ≤ row) (r1 : row ≤ n) (q : ∀ H', Same H H' → Q (.int (cntF f row.toNat)) H') : sp_Bitmap_rank K [.ref x, .int row] H Q E := by
  obtain ⟨es, b1, a1, c1⟩ := h1
  refine ⟨x, n, row, es, rfl, b1, hn, by omega, fun _ _ H' e => ?_, fun z => absurd ⟨r0, r1⟩ z⟩
  have z := rank_cnt b1.2.2.1 row.toNat
  rw [Int.toNat_of_nonneg r0, cnt_congr row.toNat fun j hj => c1 j (by omega) (by omega)] at z
  rw [z]
  exact q H' e
end
end S
namespace S
open PySem PySem.Spec PyProof.Rows L2
def t_Bitmap_nth_b1_1 (K : Frag) (E : XK) : TS :=
    tAsg (tOp oSub (dVar 2) (tOp oSub (dVar 5) (dVar 4))) (gName 2)
def t_Bitmap_nth_b1 (K : Frag) (E : XK) : TS :=
    tSeq (dIfS (dChainT oLe oLt (tC (.int 0)) (dVar 2) (tOp oSub (dVar 5) (dVar 4))) (tAsg (tOp oAddI (dVar 4) (dVar 2)) (gName 3)) (tNext))
    (stop (t_Bitmap_nth_b1_1 K E))
def t_Bitmap_nth_4 (K : Frag) (E : XK) : TS :=
    tRet (dVar 3)
def t_Bitmap_nth_3 (K : Frag) (E : XK) : TS :=
    tSeq (dForF (tMethFS K "Bitmap" (spF_Bitmap_runs K) (dVar 0)) (gTup K 2 (gCons (gName 4) (gCons (gName 5) (gNil)))) (t_Bitmap_nth_b1 K E))
    (stop (t_Bitmap_nth_4 K E))
def t_Bitmap_nth_2 (K : Frag) (E : XK) : TS :=
    tSeq (tAsg (tC (.int 0)) (gName 3))
    (stop (t_Bitmap_nth_3 K E))
def t_Bitmap_nth_1 (K : Frag) (E : XK) : TS :=
    tSeq (tAsg (dVar 1) (gName 2))
    (stop (t_Bitmap_nth_2 K E))
def t_Bitmap_nth (K : Frag) (E : XK) : TS :=
    tSeq (dIfS (dNot (dChainT oLe oLt (tC (.int 0)) (dVar 1) (dProp K "Bitmap" (sp_Bitmap_ones K) (dVar 0)))) (dGivS (ExF K "NoSuchRank" ["SliceError"]) (dRsI K "NoSuchRank" "number" (WD E) 1)) (tNext))
    (stop (t_Bitmap_nth_1 K E))
end S
-- fn: Bitmap.nth
-- law: k06
-- deps: Bitmap_runsF Bitmap_ones Bitmap_init Bx
namespace S
open PySem PySem.Spec PyProof.Rows L2
/-- one run of the loop: what is left, the row found -/
def nthS (st : Int × Int) (r : Int × Int) : Int × Int := (st.1 - (r.2 - r.1), if 0 ≤ st.1 ∧ st.1 < r.2 - r.1 then r.1 + st.1 else st.2)
theorem nthS_neg : ∀ (R : List (Int × Int)) (k x : Int), k < 0 → (∀ r ∈ R, r.1 < r.2) → (R.foldl nthS (k, x)).2 = x
  | [], _, _, _, _ => rfl
  | r :: R, k, x, hk, h => by
    have hr := h r List.mem_cons_self
    show (R.foldl nthS (nthS (k, x) r)).2 = x
    have e : nthS (k, x) r = (k - (r.2 - r.1), x) := by
      unfold nthS
      rw [if_neg (by dsimp only; omega)]
    rw [e]
    exact nthS_neg R _ x (by omega) fun q hq => h q (List.mem_cons_of_mem _ hq)
theorem runsP_lt {n : Int} : ∀ (es : List Int), es.Pairwise (· < ·) → (∀ e ∈ es, e < n) → ∀ r ∈ runsP n es, r.1 < r.2
  | [], _, _, r, hr => by cases hr
  | [a], _, h, r, hr => by
    rw [List.mem_singleton.mp hr]
    exact h a List.mem_cons_self
  | a :: b :: l, hp, h, r, hr => by
    obtain ⟨h1, h2⟩ := List.pairwise_cons.mp hp
    rcases List.mem_cons.mp hr with e | hr
    · rw [e]
      exact h1 b List.mem_cons_self
    · exact runsP_lt l (List.pairwise_cons.mp h2).2 (fun e he => h e (List.mem_cons_of_mem _ (List.mem_cons_of_mem _ he))) r hr
theorem rankF_late (row : Int) : ∀ (es : List Int) (s : Int), (∀ e ∈ es, row ≤ e) → rankF row es s = 0
  | [], _, _ => rfl
  | e :: r, s, h => by
    show (if e < row then (row - e) * s else 0) + rankF row r (-s) = 0
    rw [if_neg (by have := h e List.mem_cons_self; omega), rankF_late row r (-s) fun x hx => h x (List.mem_cons_of_mem _ hx)]
    rfl
theorem rankF_two (row a b : Int) (es : List Int) : rankF row (a :: b :: es) 1 = (if a < row then row - a else 0) - (if b < row then row - b else 0) + rankF row es 1 := by
  show (if a < row then (row - a) * 1 else 0) + ((if b < row then (row - b) * -1 else 0) + rankF row es (- -1)) = _
  rw [Int.neg_neg, Int.mul_one]
  have e : (if b < row then (row - b) * -1 else 0) = -(if b < row then row - b else 0) := by
    by_cases h : b < row
    · rw [if_pos h, if_pos h]; omega
    · rw [if_neg h, if_neg h]; rfl
  rw [e]
  omega
theorem nth_runs {n : Int} : ∀ (es : List Int) (k x : Int), es.Pairwise (· < ·) → (∀ e ∈ es, e < n) → 0 ≤ k → k < rankF n es 1 →
    (∃ lo ∈ es.head?, lo ≤ ((runsP n es).foldl nthS (k, x)).2) ∧ ((runsP n es).foldl nthS (k, x)).2 < n ∧ inB es ((runsP n es).foldl nthS (k, x)).2 = true ∧ rankF ((runsP n es).foldl nthS (k, x)).2 es 1 = k
  | [], k, x, _, _, k0, k1 => by
    have k1 : k < 0 := k1
    omega
  | [a], k, x, _, hn, k0, k1 => by
    have ha := hn a List.mem_cons_self
    have e1 : rankF n [a] 1 = n - a := by
      show (if a < n then (n - a) * 1 else 0) + 0 = _
      rw [if_pos ha]; omega
    rw [e1] at k1
    have e : ((runsP n [a]).foldl nthS (k, x)).2 = a + k := by
      show (nthS (k, x) (a, n)).2 = _
      unfold nthS
      rw [if_pos (by dsimp only; omega)]
    rw [e]
    refine ⟨⟨a, rfl, by omega⟩, by omega, ?_, ?_⟩
    · rw [inB_cons, if_pos (by omega)]; rfl
    · show (if a < a + k then (a + k - a) * 1 else 0) + 0 = k
      by_cases h : a < a + k
      · rw [if_pos h]; omega
      · rw [if_neg h]; omega
  | a :: b :: l, k, x, hp, hn, k0, k1 => by
    obtain ⟨h1, h2⟩ := List.pairwise_cons.mp hp
    obtain ⟨h3, h4⟩ := List.pairwise_cons.mp h2
    have hab := h1 b List.mem_cons_self
    have hbn := hn b (List.mem_cons_of_mem _ List.mem_cons_self)
    have hln : ∀ e ∈ l, e < n := fun e he => hn e (List.mem_cons_of_mem _ (List.mem_cons_of_mem _ he))
    have hst : (runsP n (a :: b :: l)).foldl nthS (k, x) = (runsP n l).foldl nthS (nthS (k, x) (a, b)) := rfl
    rw [rankF_two, if_pos (by omega), if_pos hbn] at k1
    rw [hst]
    by_cases hk : k < b - a
    · have e : nthS (k, x) (a, b) = (k - (b - a), a + k) := by
        unfold nthS
        rw [if_pos (by dsimp only; omega)]
      have e2 : ((runsP n l).foldl nthS (nthS (k, x) (a, b))).2 = a + k := by
        rw [e]
        exact nthS_neg _ _ _ (by omega) (runsP_lt l h4 hln)
      rw [e2]
      refine ⟨⟨a, rfl, by omega⟩, by omega, ?_, ?_⟩
      · rw [inB_cons, if_pos (by omega), inB_before fun w hw => ?_]
        · rfl
        · rcases List.mem_cons.mp hw with z | z
          · rw [z]; omega
          · have := h3 w z; omega
      · have hb2 : ¬ b < a + k := by omega
        rw [rankF_two, if_neg hb2, rankF_late (a + k) l 1 fun w hw => by have := h3 w hw; omega]
        by_cases h : a < a + k
        · rw [if_pos h]; omega
        · rw [if_neg h]; omega
    · have e : nthS (k, x) (a, b) = (k - (b - a), x) := by
        unfold nthS
        rw [if_neg (by dsimp only; omega)]
      rw [e]
      obtain ⟨⟨lo, hlo, h5⟩, h6, h7, h8⟩ := nth_runs l (k - (b - a)) x h4 hln (by omega) (by omega)
      generalize ((runsP n l).foldl nthS (k - (b - a), x)).2 = r at h5 h6 h7 h8
      have hlo2 : lo ∈ l := List.mem_of_mem_head? hlo
      have hb := h3 lo hlo2
      refine ⟨⟨a, rfl, by omega⟩, h6, ?_, ?_⟩
      · rw [inB_cons, if_pos (by omega), inB_cons, if_pos (by omega), h7]; rfl
      · rw [rankF_two, if_pos (by omega), if_pos (by omega), h8]; omega
def nthW (R : List (Int × Int)) (k : Int) (a : Addr) (ys : List V) (σ : L2.St) : Prop := ∃ x4 x5 : Option V, σ = [some (.ref a), some (.int k), some (.int ((R.take ys.length).foldl nthS (k, 0)).1), some (.int ((R.take ys.length).foldl nthS (k, 0)).2), x4, x5]
theorem nthW_step {R : List (Int × Int)} {k s e l r : Int} {a : Addr} {ys : List V} {v : V} {x4 x5 : Option V} (hg : R[ys.length]? = some (s, e)) (h : nthS ((R.take ys.length).foldl nthS (k, 0)) (s, e) = (l, r)) : nthW R k a (ys ++ [v]) [some (.ref a), some (.int k), some (.int l), some (.int r), x4, x5] := by
  refine ⟨x4, x5, ?_⟩
  rw [List.length_append]
  show _ = [_, _, some (V.int ((R.take (ys.length + 1)).foldl nthS (k, 0)).1), some (V.int ((R.take (ys.length + 1)).foldl nthS (k, 0)).2), _, _]
  rw [List.take_succ, hg, List.foldl_append]
  show _ = [_, _, some (V.int (nthS ((R.take ys.length).foldl nthS (k, 0)) (s, e)).1), some (V.int (nthS ((R.take ys.length).foldl nthS (k, 0)) (s, e)).2), _, _]
  rw [h]
def sp_Bitmap_nth (K : Frag) : Sp := fun vs H Q E => ∃ (a : Addr) (n k : Int) (es : List Int), vs = [.ref a, .int k] ∧ Bm K H a n es ∧ n ≤ 2 * 10 ^ 18 ∧ es.length ≤ 50000 ∧
  (0 ≤ k → k < rankF n es 1 → ∀ r H', Same H H' → 0 ≤ r → r < n → inB es r = true → rankF r es 1 = k → Q (.int r) H') ∧
  (¬ (0 ≤ k ∧ k < rankF n es 1) → XF K "NoSuchRank" → ∀ d H', Same H H' → H' d = none → E (.ref (He.ga K "NoSuchRank")) (some d) (upd H' d (.xd [("number", .int k)])))
theorem pure_Bitmap_nth {K : Frag} (vs : List V) (H : Hp) (Q : VK) (E : XK) (h : sp_Bitmap_nth K vs H Q E) : t_Bitmap_nth K E { nx := fun _ H' => Q .non H', rt := Q } (start ["self", "k", "left", "row", "start", "stop"] vs) H := by
  obtain ⟨a, n, k, es, rfl, hb, n1, hl, good, bad⟩ := h
  obtain ⟨c, n0, hE, dx, p, hs, hp⟩ := id hb
  have raise : ∀ H2, Same H H2 → ¬ (0 ≤ k ∧ k < rankF n es 1) → ∀ D, dGivS (ExF K "NoSuchRank" ["SliceError"]) (dRsI K "NoSuchRank" "number" (WD E) 1) D [some (.ref a), some (.int k), none, none, none, none] H2 := fun H2 e2 hb D xf => ⟨fun d nd => bad hb xf d H2 e2 nd⟩
  walk_at "gx"
  refine ifd (fun k0 => ?_) (fun k0 => raise H (Same.refl _) (fun z => k0 z.1) _)
  refine IsO.of hs ⟨a, n, es, rfl, hb, n1, hl, fun H1 e1 => ?_⟩
  show bIf (!decide (k < rankF n es 1)) _ _
  refine ifn (fun k1 => raise H1 e1 (fun z => k1 z.2) _) (fun k1 => ?_)
  have hb1 := hb.same e1
  walk_at "gx"
  have key := nth_runs es k 0 hE.1 (fun e he => (hE.2 e he).2) k0 k1
  refine ⟨⟨nthW (runsP n es) k a, ⟨none, none, rfl⟩, ?_⟩⟩
  refine IsO.of (Same.slt e1 hs) ⟨a, n, es, rfl, hb1, hl, ?_, ?_⟩
  · rintro ys s e q H2 post hget e2 hq hpost σ1 ⟨x4, x5, rfl⟩
    have step := fun l r (x4 x5 : Option V) (v : V) => nthW_step (k := k) (l := l) (r := r) (a := a) (v := v) (x4 := x4) (x5 := x5) hget
    generalize ((runsP n es).take ys.length).foldl nthS (k, 0) = st at step ⊢
    obtain ⟨left, row⟩ := st
    refine ⟨q, _, rfl, hq, rfl, _, _, rfl, _, _, rfl, rfl, ?_⟩
    refine ifd (fun h1 => ?_) (fun h1 => ?_)
    · show bIf (decide (left < e - s)) _ _
      refine ifd (fun h2 => ?_) (fun h2 => ?_)
      · refine ⟨?_⟩
        exact ⟨step _ _ _ _ _ (by unfold nthS; rw [if_pos ⟨h1, h2⟩]), hpost H2 (Same.refl _)⟩
      · refine ⟨?_⟩
        exact ⟨step _ _ _ _ _ (by unfold nthS; rw [if_neg fun z => h2 z.2]), hpost H2 (Same.refl _)⟩
    · refine ⟨?_⟩
      exact ⟨step _ _ _ _ _ (by unfold nthS; rw [if_neg fun z => h1 z.1]), hpost H2 (Same.refl _)⟩
  · rintro ys H2 hlen e2 σ1 ⟨x4, x5, rfl⟩
    rw [hlen, List.take_length]
    obtain ⟨⟨lo, hlo, h5⟩, h6, h7, h8⟩ := key
    have l0 := (hE.2 lo (List.mem_of_mem_head? hlo)).1
    refine ⟨?_⟩
    exact good k0 k1 _ H2 (e1.trans e2) (by omega) h6 h7 h8
end S
namespace S
open PySem PySem.Spec PyProof.Rows L2
def t__law_runs_b1_2 (K : Frag) (E : XK) : TS :=
    tDrop (dML K mApp (dVar 2) (tCons (dTup K (tCons (tOp (oIx K) (dVar 1) (dVar 3)) (tCons (dVar 4) (tNil)))) (tNil)))
def t__law_runs_b1_1 (K : Frag) (E : XK) : TS :=
    tSeq (dIfS (dCmpT oLt (tOp (oAdd K) (dVar 3) (tC (.int 1))) (tCB (cLen K) (tCons (dVar 1) (tNil)))) (tAsg (tOp (oIx K) (dVar 1) (tOp (oAdd K) (dVar 3) (tC (.int 1)))) (gName 4)) (tNext))
    (stop (t__law_runs_b1_2 K E))
def t__law_runs_b1 (K : Frag) (E : XK) : TS :=
    tSeq (tAsg (dVar 0) (gName 4))
    (stop (t__law_runs_b1_1 K E))
def t__law_runs_2 (K : Frag) (E : XK) : TS :=
    tRet (dVar 2)
def t__law_runs_1 (K : Frag) (E : XK) : TS :=
    tSeq (dFor (iRngS (tCons (tC (.int 0)) (tCons (tCB (cLen K) (tCons (dVar 1) (tNil))) (tCons (tC (.int 2)) (tNil))))) (gName 3) (t__law_runs_b1 K E))
    (stop (t__law_runs_2 K E))
def t__law_runs (K : Frag) (E : XK) : TS :=
    tSeq (tAsg (dLst (tNil)) (gName 2))
    (stop (t__law_runs_1 K E))
end S
-- fn: _law_runs
-- law: k06
-- deps: Bitmap_nth D0 D1
namespace S
open PySem PySem.Spec PyProof.Rows L2
theorem paired_at {α β : Type} {R : α → β → Prop} : ∀ {as : List α} {bs : List β} {i : Nat} {b : β}, Paired R as bs → bs[i]? = some b → ∃ a, as[i]? = some a ∧ R a b
  | _, _, i, b, .nil, h => by simp at h
  | _, _, 0, b, .cons r _, h => by
    rw [List.getElem?_cons_zero] at h
    rw [← Option.some.inj h]
    exact ⟨_, rfl, r⟩
  | _, _, i + 1, b, .cons _ t, h => by
    rw [List.getElem?_cons_succ] at h
    obtain ⟨a, ha, hr⟩ := paired_at t h
    exact ⟨a, by rw [List.getElem?_cons_succ]; exact ha, hr⟩
theorem runsP_len (n : Int) : ∀ es : List Int, (runsP n es).length = (es.length + 1) / 2
  | [] => rfl
  | [a] => by simp [runsP]
  | a :: b :: r => by
    show (runsP n r).length + 1 = (r.length + 1 + 1 + 1) / 2
    rw [runsP_len n r]; omega
theorem runsP_get (n : Int) : ∀ (es : List Int) (i : Nat) (s : Int), es[2 * i]? = some s → (runsP n es)[i]? = some (s, (es[2 * i + 1]?).getD n)
  | [], i, s, h => by simp at h
  | [a], i, s, h => by
    cases i with
    | zero =>
      have e : a = s := by simpa using h
      rw [e]; rfl
    | succ i => simp at h
  | a :: b :: r, i, s, h => by
    cases i with
    | zero =>
      have e : a = s := by simpa using h
      rw [e]; rfl
    | succ i =>
      have e1 : 2 * (i + 1) = 2 * i + 1 + 1 := by omega
      rw [e1] at h
      have e2 : 2 * (i + 1) + 1 = 2 * i + 1 + 1 + 1 := by omega
      rw [e2]
      show (runsP n r)[i]? = _
      simp only [List.getElem?_cons_succ] at h ⊢
      exact runsP_get n r i s h
def sp__law_runs (K : Frag) : Sp := fun vs H Q _ => ∃ (n : Int) (p : Addr) (es : List Int), vs = [.int n, .ref p] ∧ H p = some (.lst (es.map V.int)) ∧ es.length ≤ 1000 ∧
  ∀ (q : Addr) (ys : List V) (H' : Hp), H q = none → H' q = some (.lst ys) → PrsI K H' ys (runsP n es) → Same H H' → Q (.ref q) H'
def inv__law_runs (K : Frag) (H : Hp) (p d : Addr) (n : Int) (es : List Int) (i : Nat) (σ : L2.St) (H1 : Hp) : Prop := ∃ (ys : List V) (k s : Option V), σ = [some (.int n), some (.ref p), some (.ref d), k, s] ∧ Same H H1 ∧ H1 d = some (.lst ys) ∧ PrsI K H1 ys ((runsP n es).take i)
theorem pure__law_runs {K : Frag} (vs : List V) (H : Hp) (Q : VK) (E : XK) (h : sp__law_runs K vs H Q E) : t__law_runs K E { nx := fun _ H' => Q .non H', rt := Q } (start ["_law_size_here", "_law_ends_here", "_law_runs_here", "_law_k", "_law_stop"] vs) H := by
  obtain ⟨n, p, es, rfl, hp, hl, q⟩ := h
  walk_at "gx"
  refine ⟨fun d nd => ?_⟩
  have e1 := same_new (o := .lst ([] : List V)) nd
  have hp1 := e1 _ _ hp
  walk_at "gx"
  refine RngS.up (by decide) (by decide) (by omega) (by rw [List.length_map]; omega) ?_
  have hrl := runsP_len n es
  have en : (((es.map V.int).length : Int) + 2 - 1) / 2 = ((runsP n es).length : Int) := by rw [List.length_map, hrl]; omega
  rw [en, Int.toNat_natCast]
  refine for_rngS (inv__law_runs K H p d n es) ⟨[], none, none, rfl, e1, upd_same, .nil⟩ ?_ ?_
  · rintro i σ H1 hi ⟨ys, k, s, rfl, e2, hd, hP⟩
    have hp2 := e2 _ _ hp
    have hi2 : 2 * i < es.length := by omega
    obtain ⟨a, ha⟩ : ∃ a, es[2 * i]? = some a := ⟨_, List.getElem?_eq_getElem hi2⟩
    have hg := runsP_get n es i a ha
    have hat : atI (es.map V.int) (((i : Nat) : Int) * 2) = some (.int a) := by
      have e : ((i : Nat) : Int) * 2 = ((2 * i : Nat) : Int) := by omega
      rw [e]
      exact atI_nat (by rw [List.getElem?_map, ha]; rfl)
    have hly := hP.length
    rw [List.length_take] at hly
    have fin : ∀ (D : L2.Ends) (stop : Int), (∀ σ H2, inv__law_runs K H p d n es (i + 1) σ H2 → D.nx σ H2) → (es[2 * i + 1]?).getD n = stop → t__law_runs_b1_2 K E D [some (.int n), some (.ref p), some (.ref d), some (.int (((i : Nat) : Int) * 2)), some (.int stop)] H1 := by
      intro D stop hD hs
      walk_at "gx"
      refine ⟨fun t H2 e3 ht => ?_⟩
      have hd2 := e3 _ _ hd
      walk_at "gx"
      have ex : SameX d H2 (L2.upd H2 d (.lst (ys ++ [V.ref t]))) := SameX.upd
      refine hD _ _ ⟨ys ++ [.ref t], _, _, rfl, Same.mut (e2.trans e3) nd, upd_same, ?_⟩
      rw [List.take_succ, hg, hs]
      exact Paired.snoc (Paired.mapP (hP.same e3) fun _ _ ⟨u, h1, h2⟩ => ⟨u, h1, ex.tup h2 hd2⟩) ⟨t, rfl, ex.tup ht hd2⟩
    walk_at "gx"
    refine ifd (fun h => ?_) (fun h => ?_)
    · rw [List.length_map] at h
      have h3 : 2 * i + 1 < es.length := by omega
      have e : ((i : Nat) : Int) * 2 + 1 = ((2 * i + 1 : Nat) : Int) := by omega
      obtain ⟨b, hb⟩ : ∃ b, es[2 * i + 1]? = some b := ⟨_, List.getElem?_eq_getElem h3⟩
      walk_at "gx"
      refine _root_.S.At.of (v := .int b) (by rw [e]; exact atI_nat (by rw [List.getElem?_map, hb]; rfl)) ?_
      exact ⟨fin _ b (fun _ _ z => z) (by rw [hb]; rfl)⟩
    · rw [List.length_map] at h
      exact ⟨fin _ n (fun _ _ z => z) (by rw [List.getElem?_eq_none (by omega)]; rfl)⟩
  · rintro σ H1 ⟨ys, k, s, rfl, e2, hd, hP⟩
    rw [List.take_length] at hP
    walk_at "gx"
    exact q d ys H1 nd hd hP e2
end S
namespace S
open PySem PySem.Spec PyProof.Rows L2
def t__law_below_b1 (K : Frag) (E : XK) : TS :=
    dIfS (dCmpT oLt (tOp (oIx K) (dVar 3) (tC (.int 0))) (dVar 1)) (tAsg (tOp oSub (tOp (oAdd K) (dVar 2) (tCB cMin2 (tCons (tOp (oIx K) (dVar 3) (tC (.int 1))) (tCons (dVar 1) (tNil))))) (tOp (oIx K) (dVar 3) (tC (.int 0)))) (gName 2)) (tNext)
def t__law_below_2 (K : Frag) (E : XK) : TS :=
    tRet (dVar 2)
def t__law_below_1 (K : Frag) (E : XK) : TS :=
    tSeq (dFor (iSeq K (dVar 0)) (gName 3) (t__law_below_b1 K E))
    (stop (t__law_below_2 K E))
def t__law_below (K : Frag) (E : XK) : TS :=
    tSeq (tAsg (tC (.int 0)) (gName 2))
    (stop (t__law_below_1 K E))
end S
-- fn: _law_below
-- law: k06
-- deps: _law_runs
namespace S
open PySem PySem.Spec PyProof.Rows L2
/-- the rows of the runs below a row -/
def belF (row : Int) : List (Int × Int) → Int
  | [] => 0
  | r :: R => (if r.1 < row then min r.2 row - r.1 else 0) + belF row R
theorem belF_snoc (row : Int) (r : Int × Int) : ∀ R, belF row (R ++ [r]) = belF row R + (if r.1 < row then min r.2 row - r.1 else 0)
  | [] => by show _ + 0 = 0 + _; omega
  | q :: R => by
    show _ + belF row (R ++ [r]) = _ + belF row R + _
    rw [belF_snoc row r R, Int.add_assoc]
theorem belF_runs {n row : Int} (hr : row ≤ n) : ∀ es : List Int, es.Pairwise (· < ·) → belF row (runsP n es) = rankF row es 1
  | [], _ => rfl
  | [a], _ => by
    show (if a < row then min n row - a else 0) + 0 = (if a < row then (row - a) * 1 else 0) + 0
    by_cases h : a < row
    · rw [if_pos h, if_pos h]; omega
    · rw [if_neg h, if_neg h]
  | a :: b :: l, h => by
    obtain ⟨h1, h2⟩ := List.pairwise_cons.mp h
    have hab := h1 b List.mem_cons_self
    rw [rankF_two, ← belF_runs hr l (List.pairwise_cons.mp h2).2]
    show (if a < row then min b row - a else 0) + _ = _
    by_cases h3 : a < row
    · by_cases h4 : b < row
      · rw [if_pos h3, if_pos h3, if_pos h4]; omega
      · rw [if_pos h3, if_pos h3, if_neg h4]; omega
    · rw [if_neg h3, if_neg h3, if_neg (by omega)]; omega
def sp__law_below (K : Frag) : Sp := fun vs H Q _ => ∃ (p : Addr) (row : Int) (ys : List V) (R : List (Int × Int)), vs = [.ref p, .int row] ∧ H p = some (.lst ys) ∧ PrsI K H ys R ∧ ∀ H', Same H H' → Q (.int (belF row R)) H'
theorem pure__law_below {K : Frag} (vs : List V) (H : Hp) (Q : VK) (E : XK) (h : sp__law_below K vs H Q E) : t__law_below K E { nx := fun _ H' => Q .non H', rt := Q } (start ["_law_runs_here", "_law_row", "_law_many", "_law_run"] vs) H := by
  obtain ⟨p, row, ys, R, rfl, hp, hP, q⟩ := h
  walk_at "gx"
  refine for_seq (K := K) (fun i σ H1 => ∃ (x : Option V), σ = [some (.ref p), some (.int row), some (.int (belF row (R.take i))), x] ∧ Same H H1) (.inl (SqL.of hp)) ⟨none, rfl, Same.refl _⟩ (fun i σ H1 _ z => let ⟨_, _, e⟩ := z; Same.stay e) ?_ ?_
  · rintro i v σ H1 hj ⟨x, rfl, e1⟩
    obtain ⟨r, hr, t, rfl, ht⟩ := paired_at (hP.same e1) hj
    have st := belF_snoc row r (R.take i)
    have tk : R.take (i + 1) = R.take i ++ [r] := by rw [List.take_succ, hr]; rfl
    rw [← tk] at st
    walk_at "gx"
    refine ifd (fun h => ?_) (fun h => ?_)
    · rw [if_pos h] at st
      walk_at "gx"
      exact ⟨_, by rw [st, ← Int.add_sub_assoc]; rfl, e1⟩
    · rw [if_neg h, Int.add_zero] at st
      exact ⟨_, by rw [st]; rfl, e1⟩
  · rintro σ H1 ⟨x, rfl, e1⟩
    have hl := hP.length
    rw [← hl, List.take_length]
    walk_at "gx"
    exact q H1 e1
end S
namespace S
open PySem PySem.Spec PyProof.Rows L2
def t__law_is_number (K : Frag) (E : XK) : TS :=
    tRet (dAndV (tCB (cIsi K) (tCons (dVar 0) (tCons (tC (.ty "int")) (tNil)))) (dNotV (tCB (cIsi K) (tCons (dVar 0) (tCons (tC (.ty "bool")) (tNil))))))
end S
-- fn: _law_is_number
-- law: k03
-- deps: D0
namespace S
open PySem PySem.Spec PyProof.Rows L2
def sp__law_is_number (K : Frag) : Sp := fun vs H Q _ => ∃ (i : Int), vs = [.int i] ∧ Q (.bl true) H
theorem isi_int {K : Frag} {H : Hp} {i : Int} {k : Bool → Prop} (q : k true) : Isi K H (.int i) (.type "int") k := Isi.of (.base (.int i)) rfl q
theorem isi_int_bool {K : Frag} {H : Hp} {i : Int} {k : Bool → Prop} (q : k false) : Isi K H (.int i) (.type "bool") k := Isi.of (.base (.int i)) rfl q
theorem pure__law_is_number {K : Frag} (vs : List V) (H : Hp) (Q : VK) (E : XK) (h : sp__law_is_number K vs H Q E) : t__law_is_number K E { nx := fun _ H' => Q .non H', rt := Q } (start ["_law_x"] vs) H := by
  obtain ⟨i, rfl, q⟩ := h
  refine isi_int ?_
  refine isi_int_bool ?_
  exact q
end S
namespace S
open PySem PySem.Spec PyProof.Rows L2
def t__law_is_bitmap_b1_1 (K : Frag) (E : XK) : TS :=
    tAsg (dVar 3) (gName 2)
def t__law_is_bitmap_b1 (K : Frag) (E : XK) : TS :=
    tSeq (dIfS (dOr (dNot (dTest K (dCall (sp__law_is_number K) (EW E) (tCons (dVar 3) (tNil))))) (dOr (dCmpT oLe (dVar 3) (dVar 2)) (dCmpT oGe (dVar 3) (dVar 1)))) (tRet (tC (.bl false))) (tNext))
    (stop (t__law_is_bitmap_b1_1 K E))
def t__law_is_bitmap_3 (K : Frag) (E : XK) : TS :=
    tRet (tC (.bl true))
def t__law_is_bitmap_2 (K : Frag) (E : XK) : TS :=
    tSeq (dFor (iSeq K (dAt K "ends" (dVar 0))) (gName 3) (t__law_is_bitmap_b1 K E))
    (stop (t__law_is_bitmap_3 K E))
def t__law_is_bitmap_1 (K : Frag) (E : XK) : TS :=
    tSeq (tAsg (tUn uNeg (tC (.int 1))) (gName 2))
    (stop (t__law_is_bitmap_2 K E))
def t__law_is_bitmap (K : Frag) (E : XK) : TS :=
    tSeq (dIfS (dOr (dNot (dTest K (dGiv (MF K "Bitmap" [] ["object"]) (tCB (cIsi K) (tCons (dVar 0) (tCons (tC (.ref (He.ga K "Bitmap"))) (tNil))))))) (dOr (dNot (dTest K (dCall (sp__law_is_number K) (EW E) (tCons (dAt K "size" (dVar 0)) (tNil))))) (dOr (dCmpT (oNe K) (dAt K "size" (dVar 0)) (dVar 1)) (dNot (dTest K (tCB (cIsi K) (tCons (dAt K "ends" (dVar 0)) (tCons (tC (.ty "tuple")) (tNil))))))))) (tRet (tC (.bl false))) (tNext))
    (stop (t__law_is_bitmap_1 K E))
end S
-- fn: _law_is_bitmap
-- law: k05
-- deps: Bm isi_bm _law_is_number _law_in D1
namespace S
open PySem PySem.Spec PyProof.Rows L2
def sp__law_is_bitmap (K : Frag) : Sp := fun vs H Q _ => ∃ (x : Addr) (n : Int) (es : List Int), vs = [.ref x, .int n] ∧ Bm K H x n es ∧ Q (.bl true) H
theorem pure__law_is_bitmap {K : Frag} (vs : List V) (H : Hp) (Q : VK) (E : XK) (h : sp__law_is_bitmap K vs H Q E) : t__law_is_bitmap K E { nx := fun _ H' => Q .non H', rt := Q } (start ["_law_x", "_law_size_here", "_law_last", "_law_end"] vs) H := by
  obtain ⟨x, n, es, rfl, hb, q⟩ := h
  obtain ⟨c, n0, hE, dx, p, hs, hp⟩ := id hb
  refine fun _ => ?_
  refine isi_bm hb ?_
  refine Atr.sl c hs (i := 1) rfl rfl ?_
  refine ⟨n, rfl, ?_⟩
  walk_at "gx"
  refine Atr.sl c hs (i := 1) rfl rfl ?_
  walk_at "gx"
  refine ifnf rfl ?_
  refine Atr.sl c hs (i := 0) rfl rfl ?_
  refine isi_tup hp ?_
  walk_at "gx"
  refine Atr.sl c hs (i := 0) rfl rfl ?_
  refine for_seq (fun i σ H5 => H5 = H ∧ ∃ (last : Int) (k : Option V), σ = [some (.ref x), some (.int n), some (.int last), k] ∧ (last = -1 ∨ ∃ j, j < i ∧ es[j]? = some last)) (.inr hp) ⟨rfl, -1, none, rfl, .inl rfl⟩ (fun i σ H5 _ z => by rw [z.1]; exact Same.stay (Same.refl _)) ?_ ?_
  · rintro i v σ H5 hx ⟨rfl, last, k, rfl, hlast⟩
    obtain ⟨y, hy, rfl⟩ := map_get hx
    have hyr := hE.2 y (List.mem_of_getElem? hy)
    have hgt : last < y := by
      rcases hlast with e | ⟨j, hj, hlj⟩
      · omega
      · exact pw_lt hE.1 hj hlj hy
    walk_at "gx"
    refine ⟨y, rfl, ?_⟩
    walk_at "gx"
    refine iff' (by omega) ?_
    walk_at "gx"
    refine iff' (by omega) ?_
    walk_at "gx"
    exact ⟨rfl, y, _, rfl, .inr ⟨i, Nat.lt_succ_self _, hy⟩⟩
  · rintro σ H5 ⟨rfl, last, k, rfl, hlast⟩
    walk_at "gx"
    exact q
end S
-- deps: D0 D1
/-! ## lists of numbers made, joined, comprehended -/
namespace S
open PySem PySem.Spec PyProof.Rows L2
section
variable {K : Frag} {H : Hp} {Q : VK}
theorem new_ints (ns : List Int) (q : ∀ p H', Same H H' → H p = none → H' p = some (.lst (ns.map V.int)) → Q (.ref p) H') : NewL H (ns.map V.int) Q := ⟨fun p np => q p _ (same_new np) np upd_same⟩
theorem cat_ints {a b : Addr} {xs ys : List Int} (h1 : H a = some (.lst (xs.map V.int))) (h2 : H b = some (.lst (ys.map V.int))) (hz : xs.length + ys.length ≤ 100000) (q : ∀ p H', Same H H' → H p = none → H' p = some (.lst ((xs ++ ys).map V.int)) → Q (.ref p) H') : Cat K H a b Q :=
  Cat.l h1 h2 (by rw [List.length_map, List.length_map, sizeLine_eq]; omega) fun p np => q p _ (same_new np) np (by rw [upd_same, List.map_append])
theorem lc_ints {p : Addr} {g : TG} {tt : TT} {te : TE} {vs : List Nat} {σ : L2.St} (as : List Int) (f : Int → Int) (pr : Int → Bool) (hx : SqA K H p (as.map V.int)) (hz : as.length ≤ 100000)
    (hs : ∀ i H' (A : V → Hp → Prop) (B : Hp → Prop), i ∈ as → Same H H' → (∀ H2, Same H' H2 → pr i = true → A (.int (f i)) H2) → (∀ H2, Same H' H2 → pr i = false → B H2) →
      g (.int i) (wipe σ vs) H' fun σ2 H2 => wipe σ2 vs = wipe σ vs ∧ tt σ2 H2 fun b H3 => if b = true then te σ2 H3 A else B H3)
    (hd : ∀ D H', H D = none → H' D = some (.lst (((as.filter pr).map f).map V.int)) → Same H H' → Q (.ref D) H') : Walk K H p (Wr (LcGo g tt te vs σ Q)) := by
  refine lc_map (fun v => match v with | .int i => .int (f i) | v => v) (fun v => match v with | .int i => pr i | _ => false) hx (by rw [sizeLine_eq, List.length_map]; omega) ?_ fun D H' nD hD e => ?_
  · intro v H1 A B hm e hA hB
    obtain ⟨i, hi, rfl⟩ := List.mem_map.mp hm
    exact hs i H1 A B hi e hA hB
  · rw [map_filter_ints _ _ pr f (fun _ => rfl) (fun _ => rfl)] at hD
    exact hd D H' nD hD e
end
end S
namespace S
open PySem PySem.Spec PyProof.Rows L2
def t__law_is_first_b1 (K : Frag) (E : XK) : TS :=
    dIfS (dAnd (dCmpT oLe (tC (.int 0)) (dVar 6)) (dCmpT oLt (dVar 6) (dVar 1))) (tSeq (tAsg (dAndV (dCall (sp__law_in K) (EW E) (tCons (dVar 2) (tCons (dVar 6) (tNil)))) (tOp oLt (dCall (sp__law_below K) (EW E) (tCons (dVar 4) (tCons (dVar 6) (tNil)))) (dVar 3))) (gName 7))
    (dIfS (dCmpT (oNe K) (dCall (sp__law_in K) (EW E) (tCons (dAt K "ends" (dVar 0)) (tCons (dVar 6) (tNil)))) (dVar 7)) (tRet (tC (.bl false))) (tNext))) (tNext)
def t__law_is_first_4 (K : Frag) (E : XK) : TS :=
    tRet (tC (.bl true))
def t__law_is_first_3 (K : Frag) (E : XK) : TS :=
    tSeq (dFor (iSeq K (tOp (oAdd K) (tOp (oAdd K) (dVar 5) (dLc (iSeq K (dVar 5)) (gName 8) (tYes) (tOp oSub (dVar 8) (tC (.int 1))) [8])) (dLst (tCons (tOp oSub (dVar 1) (tC (.int 1))) (tNil))))) (gName 6) (t__law_is_first_b1 K E))
    (stop (t__law_is_first_4 K E))
def t__law_is_first_2 (K : Frag) (E : XK) : TS :=
    tSeq (tAsg (tOp (oAdd K) (tOp (oAdd K) (dLst (tCons (tC (.int 0)) (tNil))) (dVar 2)) (tCB (cList K) (tCons (dAt K "ends" (dVar 0)) (tNil)))) (gName 5))
    (stop (t__law_is_first_3 K E))
def t__law_is_first_1 (K : Frag) (E : XK) : TS :=
    tSeq (tAsg (dCall (sp__law_runs K) (EW E) (tCons (dVar 1) (tCons (dVar 2) (tNil)))) (gName 4))
    (stop (t__law_is_first_2 K E))
def t__law_is_first (K : Frag) (E : XK) : TS :=
    tSeq (dIfS (dNot (dTest K (dCall (sp__law_is_bitmap K) (EW E) (tCons (dVar 0) (tCons (dVar 1) (tNil)))))) (tRet (tC (.bl false))) (tNext))
    (stop (t__law_is_first_1 K E))
end S
-- fn: _law_is_first
-- law: k07
-- deps: _law_runs _law_below _law_in _law_is_bitmap Li
namespace S
open PySem PySem.Spec PyProof.Rows L2
def sp__law_is_first (K : Frag) : Sp := fun vs H Q _ => ∃ (z p : Addr) (n k : Int) (es fs : List Int), vs = [.ref z, .int n, .ref p, .int k] ∧ Bm K H z n fs ∧ H p = some (.lst (es.map V.int)) ∧ Ends n es ∧ es.length ≤ 1000 ∧ fs.length ≤ 1000 ∧
  (∀ row, 0 ≤ row → row < n → inB fs row = (inB es row && decide (rankF row es 1 < k))) ∧ ∀ H', Same H H' → Q (.bl true) H'
theorem pure__law_is_first {K : Frag} (vs : List V) (H : Hp) (Q : VK) (E : XK) (h : sp__law_is_first K vs H Q E) : t__law_is_first K E { nx := fun _ H' => Q .non H', rt := Q } (start ["_law_made", "_law_size_here", "_law_ends_here", "_law_k", "_law_runs_here", "_law_starts", "_law_row", "_law_due", "_law_start"] vs) H := by
  obtain ⟨z, p, n, k, es, fs, rfl, hz, hp, hE, le, lf, due, q⟩ := h
  obtain ⟨cf, _, _, dx, u, sl, hu⟩ := id hz
  refine ⟨z, n, fs, rfl, hz, ?_⟩
  walk_at "gx"
  refine ⟨n, p, es, rfl, hp, le, fun pr ys H1 npr hpr hP e1 => ?_⟩
  walk_at "gx"
  refine new_ints [0] fun d1 H2 e2 _ h2 => ?_
  refine cat_ints h2 (e2 _ _ (e1 _ _ hp)) (by simp; omega) fun d2 H3 e3 _ h3 => ?_
  have e13 := (e1.trans e2).trans e3
  refine Atr.sl cf (Same.slt e13 sl) (i := 0) rfl rfl ?_
  have hu3 := Same.tup e13 hu
  walk_at "gx"
  refine new_ints fs fun d3 H4 e4 _ h4 => ?_
  refine cat_ints (e4 _ _ h3) h4 (by simp; omega) fun d4 H5 e5 _ h5 => ?_
  refine ⟨?_⟩
  have hst5 : SqL K H5 d4 ((([0] ++ es) ++ fs).map V.int) := SqL.of h5
  have ls : (([0] ++ es) ++ fs).length ≤ 2001 := by simp; omega
  generalize ([0] ++ es) ++ fs = ss at *
  refine lc_ints ss (fun i => i - 1) (fun _ => true) (.inl hst5) (by omega) (fun i H6 A B hi e6 hA hB => ⟨rfl, hA H6 (Same.refl _) rfl⟩) fun d6 H6 nd6 h6 e6 => ?_
  rw [List.filter_eq_self.mpr (fun _ _ => rfl)] at h6
  refine cat_ints (e6 _ _ h5) h6 (by simp; omega) fun d7 H7 e7 _ h7 => ?_
  walk_at "gx"
  refine new_ints [n - 1] fun d8 H8 e8 _ h8 => ?_
  refine cat_ints (e8 _ _ h7) h8 (by simp; omega) fun d9 H9 e9 _ h9 => ?_
  have e19 := (((((e2.trans e3).trans e4).trans e5).trans e6).trans e7).trans (e8.trans e9)
  have hpr9 := e19 _ _ hpr
  have hP9 := hP.same e19
  have e09 := e1.trans e19
  refine for_seq (K := K) (fun i σ HA => ∃ (r dd x : Option V), σ = [some (.ref z), some (.int n), some (.ref p), some (.int k), some (.ref pr), some (.ref d4), r, dd, x] ∧ Same H9 HA) (.inl (SqL.of h9)) ⟨none, none, none, rfl, Same.refl _⟩ (fun i σ H1 _ z => let ⟨_, _, _, _, e⟩ := z; Same.stay e) ?_ ?_
  · rintro i v σ HA hj ⟨r, dd, x, rfl, eA⟩
    obtain ⟨j, hj2, rfl⟩ := map_get hj
    refine ifd (fun r0 => ?_) (fun r0 => ⟨_, _, _, rfl, eA⟩)
    refine ifd (fun r1 => ?_) (fun r1 => ⟨_, _, _, rfl, eA⟩)
    have hpA := (e09.trans eA) _ _ hp
    refine ⟨p, es, j, rfl, .inl (SqL.of hpA), ?_⟩
    have hd := due j r0 r1
    have fin : ∀ (b : Bool), inB fs j = b → ∀ (HB : Hp), Same HA HB → ∀ (x : Option V) (D : L2.Ends), (∀ σ H1, (∃ (r dd x : Option V), σ = [some (.ref z), some (.int n), some (.ref p), some (.int k), some (.ref pr), some (.ref d4), r, dd, x] ∧ Same H9 H1) → D.nx σ H1) → 
        dIfS (dCmpT (oNe K) (dCall (sp__law_in K) (EW E) (tCons (dAt K "ends" (dVar 0)) (tCons (dVar 6) (tNil)))) (dVar 7)) (tRet (tC (.bl false))) (tNext) D [some (.ref z), some (.int n), some (.ref p), some (.int k), some (.ref pr), some (.ref d4), some (.int j), some (.bl b), x] HB := by
      intro b hb HB eB x D hD
      subst hb
      have e0B := (e09.trans eA).trans eB
      refine Atr.sl cf (Same.slt e0B sl) (i := 0) rfl rfl ?_
      refine ⟨u, fs, j, rfl, .inr (Same.tup e0B hu), ?_⟩
      refine ifnf rfl ?_
      exact hD _ _ ⟨_, _, _, rfl, eA.trans eB⟩
    cases hi : inB es j with
    | false =>
      rw [hi] at hd
      exact fin false hd HA (Same.refl _) x _ fun _ _ z => z
    | true =>
      rw [hi] at hd
      refine ⟨pr, j, ys, runsP n es, rfl, eA _ _ hpr9, hP9.same eA, fun HB eB => ?_⟩
      rw [belF_runs (by omega) es hE.1]
      exact fin _ hd HB eB x _ fun _ _ z => z
  · rintro σ HA ⟨r, dd, x, rfl, eA⟩
    walk_at "gx"
    exact q HA (e09.trans eA)
end S
namespace S
open PySem PySem.Spec PyProof.Rows L2
def t_Bitmapdd_containsdd (K : Frag) (E : XK) : TS :=
    tRet (dAndV (dChain oLe oLt (tC (.int 0)) (dVar 1) (dAt K "size" (dVar 0))) (tOp (oEq K) (tOp oAnd (tCB (cLen K) (tCons (dLc (iSeq K (dAt K "ends" (dVar 0))) (gName 2) (dCmpT oLe (dVar 2) (dVar 1)) (dVar 2) [2]) (tNil))) (tC (.int 1))) (tC (.int 1))))
end S
-- fn: Bitmap.__contains__
-- law: k01
-- deps: Bm _law_in
namespace S
open PySem PySem.Spec PyProof.Rows L2
/-- a row is in the bitmap -/
def rowIn (n : Int) (es : List Int) (row : Int) : Bool := decide (0 ≤ row) && (decide (row < n) && inB es row)
def sp_Bitmapdd_containsdd (K : Frag) : Sp := fun vs H Q _ => ∃ (x : Addr) (n : Int) (es : List Int) (row : Int), vs = [.ref x, .int row] ∧ Bm K H x n es ∧ es.length ≤ 100000 ∧ ∀ H', Same H H' → Q (.bl (rowIn n es row)) H'
theorem inB_odd (es : List Int) (row : Int) : inB es row = decide (((es.filter fun e => decide (e ≤ row)).length) % 2 = 1) := by
  induction es with
  | nil => rfl
  | cons x r ih =>
    rw [inB_cons, List.filter_cons]
    by_cases h : x ≤ row
    · rw [if_pos h, if_pos (by simpa using h), ih, List.length_cons]
      by_cases h2 : (r.filter fun e => decide (e ≤ row)).length % 2 = 1
      · rw [decide_eq_true h2, decide_eq_false (by omega)]; rfl
      · rw [decide_eq_false h2, decide_eq_true (by omega)]; rfl
    · rw [if_neg h, if_neg (by simpa using h), ih]
theorem pure_Bitmapdd_containsdd {K : Frag} (vs : List V) (H : Hp) (Q : VK) (E : XK) (h : sp_Bitmapdd_containsdd K vs H Q E) : t_Bitmapdd_containsdd K E { nx := fun _ H' => Q .non H', rt := Q } (start ["self", "row", "end"] vs) H := by
  obtain ⟨x, n, es, row, rfl, hb, hl, q⟩ := h
  obtain ⟨c, h0, hE, dx, p, hs, hp⟩ := id hb
  walk_at "gx"
  refine ifd (fun h1 => ?_) (fun h1 => ?_)
  · walk_at "gx"
    refine Atr.sl c hs (i := 1) rfl rfl ?_
    walk_at "gx"
    refine ifd (fun h2 => ?_) (fun h2 => ?_)
    · walk_at "gx"
      refine Atr.sl c hs (i := 0) rfl rfl ?_
      refine lc_map (fun v => v) (fun v => match v with | .int i => decide (i ≤ row) | _ => false) (.inr hp) (by rw [List.length_map, sizeLine_eq]; omega) ?_ fun D H5 nD hD e5 => ?_
      · intro y H A B hm e hA hB
        obtain ⟨i, hi, rfl⟩ := List.mem_map.mp hm
        refine ⟨rfl, ?_⟩
        walk_at "gx"
        refine ifc (fun h => ?_) (fun h => ?_)
        · exact hA _ (Same.refl _) (decide_eq_true h)
        · exact hB _ (Same.refl _) (decide_eq_false h)
      · rw [map_filter_ints _ _ (fun i => decide (i ≤ row)) (fun i => i) (fun _ => rfl) (fun _ => rfl), List.map_id'] at hD
        walk_at "gx"
        have z := q H5 e5
        have e : rowIn n es row = decide (Builtin.bitAnd (((es.filter fun e => decide (e ≤ row)).map V.int).length : Int) 1 = 1) := by
          unfold rowIn
          rw [decide_eq_true h1, decide_eq_true h2, inB_odd, bitAnd_m1, List.length_map, Bool.true_and, Bool.true_and, decide_eq_decide]
          omega
        rw [e] at z
        exact z
    · have e : rowIn n es row = false := by unfold rowIn; rw [decide_eq_false h2]; simp
      have z := q H (Same.refl _)
      rw [e] at z
      exact z
  · have e : rowIn n es row = false := by unfold rowIn; rw [decide_eq_false h1]; rfl
    have z := q H (Same.refl _)
    rw [e] at z
    exact z
end S
namespace S
open PySem PySem.Spec PyProof.Rows L2
def t__law_one_sided_1 (K : Frag) (E : XK) : TS :=
    tRet (tCB (cSorted K) (tCons (tOp (oAdd K) (dVar 2) (dLc (iSeq K (dVar 1)) (gName 3) (dCmpT (oNin K) (dVar 3) (dVar 0)) (dVar 3) [3])) (tNil)))
def t__law_one_sided (K : Frag) (E : XK) : TS :=
    tSeq (tAsg (dLc (iSeq K (dVar 0)) (gName 3) (dCmpT (oNin K) (dVar 3) (dVar 1)) (dVar 3) [3]) (gName 2))
    (stop (t__law_one_sided_1 K E))
end S
-- fn: _law_one_sided
-- law: k10
-- deps: D0 D1 _law_in Bitmap_ops
namespace S
open PySem PySem.Spec PyProof.Rows L2
theorem mem_iff (z : Int) : ∀ L : List Int, L.Pairwise (· < ·) → (z ∈ L ↔ inB L z ≠ inB L (z - 1))
  | [], _ => by simp [inB]
  | x :: r, h => by
    obtain ⟨h1, h2⟩ := List.pairwise_cons.mp h
    rw [inB_cons, inB_cons, List.mem_cons]
    have ih := mem_iff z r h2
    by_cases e : z = x
    · subst e
      rw [if_pos (Int.le_refl _), if_neg (by omega), inB_before h1, inB_before fun w hw => by have := h1 w hw; omega]
      simp
    · by_cases g : x < z
      · rw [if_pos (by omega), if_pos (by omega)]
        constructor
        · rintro (a | a)
          · exact absurd a e
          · have := ih.mp a
            simpa using this
        · intro a
          exact .inr (ih.mpr (by simpa using a))
      · rw [if_neg (by omega), if_neg (by omega)]
        constructor
        · rintro (a | a)
          · exact absurd a e
          · exact ih.mp a
        · intro a
          exact .inr (ih.mpr a)
/-- the ends of a ^ b -/
theorem xor_mem {n : Int} {es fs : List Int} (h1 : Ends n es) (h2 : Ends n fs) (z : Int) : z ∈ joinE rXor es fs ↔ (z ∈ es ∧ z ∉ fs) ∨ (z ∈ fs ∧ z ∉ es) := by
  rw [mem_iff z _ (join_ends (r := rXor) h1 h2).1, join_in h1 h2 rfl, join_in h1 h2 rfl, mem_iff z es h1.1, mem_iff z fs h2.1]
  unfold rXor
  cases inB es z <;> cases inB es (z - 1) <;> cases inB fs z <;> cases inB fs (z - 1) <;> simp
/-- two ascending lists with the same members -/
theorem asc_ext : ∀ (xs ys : List Int), xs.Pairwise (· < ·) → ys.Pairwise (· < ·) → (∀ z, z ∈ xs ↔ z ∈ ys) → xs = ys
  | [], [], _, _, _ => rfl
  | [], y :: r, _, _, h => by have := (h y).mpr (List.mem_cons_self ..); cases this
  | x :: r, [], _, _, h => by have := (h x).mp (List.mem_cons_self ..); cases this
  | x :: r, y :: r', h1, h2, h => by
    obtain ⟨a1, a2⟩ := List.pairwise_cons.mp h1
    obtain ⟨b1, b2⟩ := List.pairwise_cons.mp h2
    have e : x = y := by
      rcases List.mem_cons.mp ((h x).mp (List.mem_cons_self ..)) with e | e
      · exact e
      · rcases List.mem_cons.mp ((h y).mpr (List.mem_cons_self ..)) with f | f
        · exact f.symm
        · have := b1 x e; have := a1 y f; omega
    subst e
    rw [asc_ext r r' a2 b2 fun z => ?_]
    constructor
    · intro hz
      rcases List.mem_cons.mp ((h z).mp (List.mem_cons_of_mem _ hz)) with e | e
      · have := a1 z hz; omega
      · exact e
    · intro hz
      rcases List.mem_cons.mp ((h z).mpr (List.mem_cons_of_mem _ hz)) with e | e
      · have := b1 z hz; omega
      · exact e
def sp__law_one_sided (K : Frag) : Sp := fun vs H Q _ => ∃ (p q : Addr) (n : Int) (es fs : List Int), vs = [.ref p, .ref q] ∧ H p = some (.lst (es.map V.int)) ∧ H q = some (.lst (fs.map V.int)) ∧ Ends n es ∧ Ends n fs ∧ es.length ≤ 1000 ∧ fs.length ≤ 1000 ∧
  ∀ r H', Same H H' → H' r = some (.lst ((joinE rXor es fs).map V.int)) → Q (.ref r) H'
theorem pure__law_one_sided {K : Frag} (vs : List V) (H : Hp) (Q : VK) (E : XK) (h : sp__law_one_sided K vs H Q E) : t__law_one_sided K E { nx := fun _ H' => Q .non H', rt := Q } (start ["_law_one", "_law_other", "_law_ends_here", "_law_end"] vs) H := by
  obtain ⟨p, q, n, es, fs, rfl, hp, hq, hE, hF, l1, l2, k⟩ := h
  walk_at "gx"
  refine lc_map (fun v => v) (fun v => match v with | .int i => !decide (i ∈ fs) | _ => false) (.inl (SqL.of hp)) (by rw [List.length_map, sizeLine_eq]; omega) ?_ fun D H5 nD hD e5 => ?_
  · intro v H6 A B hm e6 hA hB
    obtain ⟨i, hi, rfl⟩ := List.mem_map.mp hm
    refine ⟨rfl, ?_⟩
    refine Rd.l (e6 _ _ hq) ⟨⟨rfl, flat_ints fs⟩, ?_⟩
    rw [inV_int]
    by_cases h : i ∈ fs
    · rw [decide_eq_true h]
      exact hB _ (Same.refl _) (by simp [h])
    · rw [decide_eq_false h]
      exact hA _ (Same.refl _) (by simp [h])
  · rw [map_filter_ints _ _ (fun i => !decide (i ∈ fs)) (fun i => i) (fun _ => rfl) (fun _ => rfl), List.map_id'] at hD
    refine ⟨?_⟩
    walk_at "gx"
    refine lc_map (fun v => v) (fun v => match v with | .int i => !decide (i ∈ es) | _ => false) (.inl (SqL.of (e5 _ _ hq))) (by rw [List.length_map, sizeLine_eq]; omega) ?_ fun D2 H6 nD2 hD2 e6 => ?_
    · intro v H7 A B hm e7 hA hB
      obtain ⟨i, hi, rfl⟩ := List.mem_map.mp hm
      refine ⟨rfl, ?_⟩
      refine Rd.l (e7 _ _ (e5 _ _ hp)) ⟨⟨rfl, flat_ints es⟩, ?_⟩
      rw [inV_int]
      by_cases h : i ∈ es
      · rw [decide_eq_true h]
        exact hB _ (Same.refl _) (by simp [h])
      · rw [decide_eq_false h]
        exact hA _ (Same.refl _) (by simp [h])
    · rw [map_filter_ints _ _ (fun i => !decide (i ∈ es)) (fun i => i) (fun _ => rfl) (fun _ => rfl), List.map_id'] at hD2
      have g1 := List.length_filter_le (fun i => !decide (i ∈ fs)) es
      have g2 := List.length_filter_le (fun i => !decide (i ∈ es)) fs
      refine Cat.l (e6 _ _ hD) hD2 (by simp only [sizeLine_eq, List.length_map]; omega) fun r nr => ?_
      rw [← List.map_append]
      refine ⟨⟨_, SqL.of upd_same, fun ns' r2 hperm hsrt nr2 => ?_⟩⟩
      have e7 := ((e5.trans e6).trans (same_new (o := .lst ((es.filter (fun i => !decide (i ∈ fs)) ++ fs.filter (fun i => !decide (i ∈ es))).map V.int)) nr)).trans (same_new (o := .lst (ns'.map V.int)) nr2)
      have hmem : ∀ z, z ∈ ns' ↔ z ∈ joinE rXor es fs := fun z => by
        rw [hperm.mem_iff, xor_mem hE hF z]
        simp
      have hnd : ns'.Nodup := hperm.nodup_iff.mpr (List.nodup_append.mpr ⟨(hE.1.imp fun h => by omega).filter _, (hF.1.imp fun h => by omega).filter _, fun x hx y hy e => by
        subst e
        have h1 := (List.mem_filter.mp hx).1
        have h2 := (List.mem_filter.mp hy).2
        simp at h2
        exact h2 h1⟩)
      have hlt : ns'.Pairwise (· < ·) := (hsrt.and hnd).imp fun h => by have := h.1; have := h.2; omega
      have e := asc_ext ns' _ hlt (join_ends (r := rXor) hE hF).1 hmem
      subst e
      exact k r2 _ e7 upd_same
end S
-- deps: Bm Bitmap_ops _law_in _law_one_sided
/-! ## slices: numbers of bits, place 0 first, the sign last -/
namespace S
open PySem PySem.Spec PyProof.Rows L2
def b2n (b : Bool) : Int := if b = true then 1 else 0
def twos : List Bool → Int
  | [] => 0
  | [b] => - b2n b
  | b :: c :: r => b2n b + 2 * twos (c :: r)
theorem twos_cons (b : Bool) {r : List Bool} (h : r ≠ []) : twos (b :: r) = b2n b + 2 * twos r := by
  cases r with
  | nil => exact absurd rfl h
  | cons c r => rfl
def numL (L : List (List Int)) (row : Int) : Int := twos (L.map fun es => inB es row)
theorem twos_dup (b : Bool) : ∀ bs : List Bool, twos (bs ++ [b, b]) = twos (bs ++ [b])
  | [] => by cases b <;> rfl
  | x :: r => by
    show twos (x :: (r ++ [b, b])) = twos (x :: (r ++ [b]))
    rw [twos_cons x (by simp), twos_cons x (by simp), twos_dup b r]
theorem twos_ext (b : Bool) (bs : List Bool) : ∀ k : Nat, twos (bs ++ [b] ++ List.replicate k b) = twos (bs ++ [b])
  | 0 => by simp
  | k + 1 => by
    have e : bs ++ [b] ++ List.replicate (k + 1) b = (bs ++ List.replicate k b) ++ [b, b] := by
      have : List.replicate k b ++ [b] = List.replicate (k + 1) b := by rw [List.replicate_succ']
      rw [List.append_assoc, List.append_assoc]
      congr 1
      rw [← this, ← List.append_assoc]
      have h2 : [b] ++ List.replicate k b = List.replicate k b ++ [b] := by rw [← List.replicate_succ']; rfl
      rw [h2, List.append_assoc]; rfl
    rw [e, twos_dup, List.append_assoc]
    have h2 : List.replicate k b ++ [b] = [b] ++ List.replicate k b := by rw [← List.replicate_succ']; rfl
    rw [h2, ← List.append_assoc]
    exact twos_ext b bs k
theorem twos_range : ∀ (bs : List Bool) (x : Bool), -(2 ^ bs.length : Int) ≤ twos (bs ++ [x]) ∧ twos (bs ++ [x]) < 2 ^ bs.length
  | [], x => by cases x <;> decide
  | b :: r, x => by
    obtain ⟨h1, h2⟩ := twos_range r x
    show -(2 ^ (r.length + 1) : Int) ≤ twos (b :: (r ++ [x])) ∧ twos (b :: (r ++ [x])) < 2 ^ (r.length + 1)
    rw [twos_cons b (by simp), Int.pow_succ]
    have hb : b2n b = 0 ∨ b2n b = 1 := by cases b <;> simp [b2n]
    generalize (2 ^ r.length : Int) = p at *
    omega
theorem twos_hi : ∀ (bs : List Bool), (2 ^ bs.length : Int) ≤ twos (bs ++ [true, false])
  | [] => by decide
  | b :: r => by
    have h1 := twos_hi r
    show (2 ^ (r.length + 1) : Int) ≤ twos (b :: (r ++ [true, false]))
    rw [twos_cons b (by simp), Int.pow_succ]
    have hb : b2n b = 0 ∨ b2n b = 1 := by cases b <;> simp [b2n]
    generalize (2 ^ r.length : Int) = p at *
    omega
theorem twos_lo : ∀ (bs : List Bool), twos (bs ++ [false, true]) < -(2 ^ bs.length : Int)
  | [] => by decide
  | b :: r => by
    have h1 := twos_lo r
    show twos (b :: (r ++ [false, true])) < -(2 ^ (r.length + 1) : Int)
    rw [twos_cons b (by simp), Int.pow_succ]
    have hb : b2n b = 0 ∨ b2n b = 1 := by cases b <;> simp [b2n]
    generalize (2 ^ r.length : Int) = p at *
    omega
/-- two top bits that differ: one width less does not do -/
theorem twos_wide {bs : List Bool} {x y : Bool} (h : x ≠ y) : twos (bs ++ [x, y]) < -(2 ^ bs.length : Int) ∨ (2 ^ bs.length : Int) ≤ twos (bs ++ [x, y]) := by
  cases x <;> cases y
  · exact absurd rfl h
  · exact .inl (twos_lo bs)
  · exact .inr (twos_hi bs)
  · exact absurd rfl h
/-! ### the law's sum over the places -/
def accP (n : Nat) : Nat → List Bool → Int
  | _, [] => 0
  | j, b :: r => (if b = true then (if j + 1 = n then -(2 ^ j) else 2 ^ j) else 0) + accP n (j + 1) r
theorem acc_twos (n : Nat) : ∀ (r : List Bool) (j : Nat), j + r.length = n → accP n j r = 2 ^ j * twos r
  | [], j, _ => by show (0 : Int) = 2 ^ j * 0; rw [Int.mul_zero]
  | [b], j, h => by
    have h' : j + 1 = n := h
    show (if b = true then (if j + 1 = n then -(2 ^ j : Int) else 2 ^ j) else 0) + 0 = 2 ^ j * -(b2n b)
    rw [if_pos h']
    cases b
    · show (0 : Int) + 0 = 2 ^ j * -0; simp
    · show -(2 ^ j : Int) + 0 = 2 ^ j * -1
      rw [Int.mul_neg, Int.mul_one, Int.add_zero]
  | b :: c :: r, j, h => by
    have hl : j + (r.length + 1 + 1) = n := h
    show (if b = true then (if j + 1 = n then -(2 ^ j : Int) else 2 ^ j) else 0) + accP n (j + 1) (c :: r) = 2 ^ j * (b2n b + 2 * twos (c :: r))
    rw [acc_twos n (c :: r) (j + 1) (by show j + 1 + (r.length + 1) = n; omega), if_neg (show ¬ j + 1 = n by omega), Int.mul_add, Int.pow_succ, Int.mul_assoc]
    congr 1
    cases b
    · show (0 : Int) = 2 ^ j * 0; simp
    · show (2 ^ j : Int) = 2 ^ j * 1; simp
theorem acc_all (bs : List Bool) : accP bs.length 0 bs = twos bs := by
  rw [acc_twos bs.length bs 0 (by omega)]; show 1 * twos bs = _; rw [Int.one_mul]
/-! ### lists of bitmaps, of lists -/
/-- a place with its ends -/
abbrev Sli := Addr × List Int
def vB (t : Sli) : V := .ref t.1
def Bms (K : Frag) (H : Hp) (n : Int) (M : List Sli) : Prop := ∀ t ∈ M, Bm K H t.1 n t.2
theorem Bms.same {K : Frag} {H H' : Hp} {n : Int} {M : List Sli} (h : Bms K H n M) (e : Same H H') : Bms K H' n M := fun t ht => (h t ht).same e
theorem Bms.x {K : Frag} {H H' : Hp} {n : Int} {M : List Sli} {st : Addr} {l : List V} (h : Bms K H n M) (e : SameX st H H') (hst : H st = some (.lst l)) : Bms K H' n M := fun t ht => (h t ht).x e hst
def Lss (H : Hp) (n : Int) (most : Nat) (M : List Sli) : Prop := ∀ t ∈ M, H t.1 = some (.lst (t.2.map V.int)) ∧ Ends n t.2 ∧ t.2.length ≤ most
theorem Lss.same {H H' : Hp} {n : Int} {m : Nat} {M : List Sli} (h : Lss H n m M) (e : Same H H') : Lss H' n m M := fun t ht => let ⟨a, b, c⟩ := h t ht; ⟨e _ _ a, b, c⟩
theorem Lss.x {H H' : Hp} {n : Int} {m : Nat} {M : List Sli} {st : Addr} (h : Lss H n m M) (e : SameX st H H') (nst : ∀ t ∈ M, t.1 ≠ st) : Lss H' n m M := fun t ht => let ⟨a, b, c⟩ := h t ht; ⟨e _ _ a (nst t ht), b, c⟩
theorem atI_last {xs : List V} {y : V} : atI (xs ++ [y]) (-1) = some y := by
  unfold atI ixN
  rw [if_neg (by decide), if_pos (by simp; omega), Option.bind_some]
  have e : (-1 + ((xs ++ [y]).length : Int)).toNat = xs.length := by simp; omega
  rw [e]; simp
theorem atI_last2 {xs : List V} {y z : V} : atI (xs ++ [y, z]) (-2) = some y := by
  unfold atI ixN
  rw [if_neg (by decide), if_pos (by simp; omega), Option.bind_some]
  have e : (-2 + ((xs ++ [y, z]).length : Int)).toNat = xs.length := by simp; omega
  rw [e]; simp
theorem two_last {α : Type} (M : List α) (h : 1 < M.length) : ∃ A x y, M = A ++ [x, y] := by
  have h1 : M ≠ [] := fun z => by rw [z] at h; simp at h
  obtain ⟨A1, y, rfl⟩ : ∃ A y, M = A ++ [y] := ⟨M.dropLast, M.getLast h1, (List.dropLast_concat_getLast h1).symm⟩
  have h2 : A1 ≠ [] := fun z => by rw [z] at h; simp at h
  obtain ⟨A, x, rfl⟩ : ∃ A y, A1 = A ++ [y] := ⟨A1.dropLast, A1.getLast h2, (List.dropLast_concat_getLast h2).symm⟩
  exact ⟨A, x, y, by simp⟩
theorem one_last {α : Type} (M : List α) (h : M ≠ []) : ∃ A y, M = A ++ [y] := ⟨M.dropLast, M.getLast h, (List.dropLast_concat_getLast h).symm⟩
/-- two lists of ends that differ: at an end of one of them -/
theorem diff_row : ∀ (es fs : List Int), es.Pairwise (· < ·) → fs.Pairwise (· < ·) → es ≠ fs → ∃ z, (z ∈ es ∨ z ∈ fs) ∧ inB es z ≠ inB fs z
  | [], [], _, _, h => absurd rfl h
  | [], y :: r, _, h2, _ => ⟨y, .inr (List.mem_cons_self ..), by
    rw [inB_cons, if_pos (Int.le_refl _), inB_before (List.pairwise_cons.mp h2).1]; simp [inB]⟩
  | x :: r, [], h1, _, _ => ⟨x, .inl (List.mem_cons_self ..), by
    rw [inB_cons, if_pos (Int.le_refl _), inB_before (List.pairwise_cons.mp h1).1]; simp [inB]⟩
  | x :: r, y :: r', h1, h2, h => by
    obtain ⟨a1, a2⟩ := List.pairwise_cons.mp h1
    obtain ⟨b1, b2⟩ := List.pairwise_cons.mp h2
    rcases Int.lt_trichotomy x y with hl | hl | hl
    · refine ⟨x, .inl (List.mem_cons_self ..), ?_⟩
      rw [inB_cons, if_pos (Int.le_refl _), inB_before a1, inB_cons, if_neg (by omega), inB_before fun w hw => by have := b1 w hw; omega]
      simp
    · subst hl
      obtain ⟨z, hz, hd⟩ := diff_row r r' a2 b2 fun e => h (by rw [e])
      have hxz : x < z := by
        rcases hz with hz | hz
        · exact a1 z hz
        · exact b1 z hz
      refine ⟨z, hz.imp (List.mem_cons_of_mem _) (List.mem_cons_of_mem _), ?_⟩
      rw [inB_cons, inB_cons, if_pos (by omega), if_pos (by omega)]
      intro e
      exact hd (by simpa using e)
    · refine ⟨y, .inr (List.mem_cons_self ..), ?_⟩
      rw [inB_cons, if_neg (by omega), inB_before fun w hw => by have := a1 w hw; omega, inB_cons, if_pos (Int.le_refl _), inB_before b1]
      simp
/-- the fewest slices with the same numbers -/
structure Narrow (M M' : List Sli) : Prop where
  ne : M' ≠ []
  pre : ∃ r, M = M' ++ r
  num : ∀ row, numL (M'.map (·.2)) row = numL (M.map (·.2)) row
  top : ∀ A x y, M' = A ++ [x, y] → x.2 ≠ y.2
end S
-- deps: Bm Sl
/-! ## comprehensions that make objects -/
namespace S
open PySem PySem.Spec PyProof.Rows L2
theorem SameI.slt {H H' : Hp} {a C dx : Addr} {vs : List (Option V)} (e : SameI H H') (h : SlX.Slt H a C dx vs) : SlX.Slt H' a C dx vs := by
  rcases h with ⟨h, z⟩ | ⟨h, z⟩
  · exact .inl ⟨e _ _ h (fun _ z => by cases z), z⟩
  · exact .inr ⟨e _ _ h fun _ => slO_lst, e _ _ z (fun _ z => by cases z)⟩
theorem Bm.i {K : Frag} {H H' : Hp} {a : Addr} {n : Int} {es : List Int} (h : Bm K H a n es) (e : SameI H H') : Bm K H' a n es := by
  obtain ⟨c, h0, hE, dx, p, h1, h2⟩ := h
  exact ⟨c, h0, hE, dx, p, e.slt h1, e.tup h2⟩
/-- [e for x in xs]: of data known ahead, the elements told by a relation that the growing list does not touch -/
theorem lc_dat {α : Type} {K : Frag} {p : Addr} {i : Nat} {te : TE} {vs : List Nat} {σ : L2.St} {H1 : Hp} {Q : VK} (as : List α) (f : α → V) (R : Addr → α → V → Hp → Prop) (hx : SqA K H1 p (as.map f)) (hz : as.length < sizeLine)
    (mono : ∀ D a y H H' l, H D = some (.lst l) → R D a y H → SameX D H H' → R D a y H')
    (hs : ∀ (D : Addr) (l : List V) (j : Nat) (a : α) (H : Hp) (A : V → Hp → Prop), H1 D = none → H D = some (.lst l) → as[j]? = some a → Same H1 H → (∀ y H', Same H H' → R D a y H' → A y H') → wipe ((wipe σ vs).set i (some (f a))) vs = wipe σ vs ∧ te ((wipe σ vs).set i (some (f a))) H A)
    (hd : ∀ D ys H', H1 D = none → H' D = some (.lst ys) → Paired (fun a y => R D a y H') as ys → Same H1 H' → Q (.ref D) H') :
    Walk K H1 p (Wr (LcGo (gName i) tYes te vs σ Q)) := by
  refine lc_seq hx fun D hD => ⟨fun j H => ∃ ys, H D = some (.lst ys) ∧ Paired (fun a y => R D a y H) (as.take j) ys ∧ Same H1 H, ⟨[], upd_same, .nil, same_new hD⟩, fun i H _ ⟨_, _, _, e⟩ ys => ⟨e.seq, Same.tup e⟩, ?_, fun H ⟨ys, h1, h2, e⟩ => hd D ys H hD h1 (by rw [List.length_map, List.take_length] at h2; exact h2) e⟩
  rintro j x H hi ⟨ys, h1, h2, e⟩
  rw [List.getElem?_map] at hi
  cases hj : as[j]? with
  | none => rw [hj] at hi; cases hi
  | some a =>
    rw [hj] at hi
    cases hi
    have hil : j < as.length := (List.getElem?_eq_some_iff.mp hj).1
    have hlen : ys.length ≤ j := by
      rw [← h2.length, List.length_take]; exact Nat.min_le_left _ _
    obtain ⟨w, q⟩ := hs D ys j a H (fun y H4 => ∃ acc, H4 D = some (.lst acc) ∧ acc.length < sizeLine ∧ ∃ ys, upd H4 D (.lst (acc ++ [y])) D = some (.lst ys) ∧ Paired (fun a y' => R D a y' (upd H4 D (.lst (acc ++ [y])))) (as.take (j + 1)) ys ∧ Same H1 (upd H4 D (.lst (acc ++ [y])))) hD h1 hj e fun y H' e2 r => by
      have si : SameX D H' (L2.upd H' D (.lst (ys ++ [y]))) := SameX.upd
      refine ⟨ys, e2 _ _ h1, by omega, ys ++ [y], upd_same, ?_, fun b o hb => ?_⟩
      · rw [List.take_succ, hj]
        exact Paired.snoc (Paired.mapP h2 fun a b r => mono _ _ _ _ _ _ h1 r (Same.thenX e2 si)) (mono _ _ _ _ _ _ (e2 _ _ h1) r si)
      · rw [upd_ne (ne_of_none hb hD)]
        exact e2 _ _ (e _ _ hb)
    refine ⟨w, ?_⟩
    unfold tYes
    dsimp only
    rw [if_pos rfl]
    exact q
/-- the lists that a comprehension made -/
theorem paired_lst {α : Type} {H : Hp} {D : Addr} {es : α → List Int} : ∀ {as : List α} {ys : List V}, Paired (fun a y => ∃ x, y = .ref x ∧ x ≠ D ∧ H x = some (.lst ((es a).map V.int))) as ys → ∃ M : List Sli, ys = M.map vB ∧ M.map (·.2) = as.map es ∧ ∀ t ∈ M, H t.1 = some (.lst (t.2.map V.int))
  | _, _, .nil => ⟨[], rfl, rfl, fun _ z => nomatch z⟩
  | _, _, .cons (a := a) ⟨x, e, _, hb⟩ h => by
    obtain ⟨M, h1, h2, h3⟩ := paired_lst h
    refine ⟨(x, es a) :: M, by rw [e, h1]; rfl, by rw [List.map_cons, List.map_cons, h2], fun t ht => ?_⟩
    rcases List.mem_cons.mp ht with rfl | ht
    · exact hb
    · exact h3 t ht
/-- pairs of data with their bitmaps as a list of places with ends -/
theorem paired_sli {α : Type} {K : Frag} {H : Hp} {n : Int} {es : α → List Int} : ∀ {as : List α} {ys : List V}, Paired (fun a y => ∃ x, y = .ref x ∧ Bm K H x n (es a)) as ys → ∃ M : List Sli, ys = M.map vB ∧ M.map (·.2) = as.map es ∧ Bms K H n M
  | _, _, .nil => ⟨[], rfl, rfl, fun _ z => nomatch z⟩
  | _, _, .cons (a := a) ⟨x, e, hb⟩ h => by
    obtain ⟨M, h1, h2, h3⟩ := paired_sli h
    refine ⟨(x, es a) :: M, by rw [e, h1]; rfl, by rw [List.map_cons, List.map_cons, h2], fun t ht => ?_⟩
    rcases List.mem_cons.mp ht with rfl | ht
    · exact hb
    · exact h3 t ht
end S
-- deps: Bm Bitmap_ops Sl Lc
/-! ## bitmaps told by their rows, their ends among known ones -/
namespace S
open PySem PySem.Spec PyProof.Rows L2
structure Kn (S : List Int) : Prop where
  zero : (0 : Int) ∈ S
  len : S.length ≤ 1000
theorem asc_len : ∀ (L S : List Int), L.Pairwise (· < ·) → (∀ z ∈ L, z ∈ S) → L.length ≤ S.length
  | [], _, _, _ => Nat.zero_le _
  | x :: r, S, h, hs => by
    obtain ⟨h1, h2⟩ := List.pairwise_cons.mp h
    have hx := hs x (List.mem_cons_self ..)
    have ih := asc_len r (S.erase x) h2 fun z hz => (List.mem_erase_of_ne (by have := h1 z hz; omega)).mpr (hs z (List.mem_cons_of_mem _ hz))
    have e := List.length_erase_of_mem hx
    have hp : 0 < S.length := List.length_pos_of_mem hx
    rw [List.length_cons]; omega
def Bs (K : Frag) (H : Hp) (x : Addr) (n : Int) (f : Int → Bool) (S : List Int) : Prop := ∃ es, Bm K H x n es ∧ (∀ z ∈ es, z ∈ S) ∧ ∀ row, 0 ≤ row → row < n → inB es row = f row
theorem Bs.same {K : Frag} {H H' : Hp} {x : Addr} {n : Int} {f : Int → Bool} {S : List Int} (h : Bs K H x n f S) (e : Same H H') : Bs K H' x n f S := let ⟨es, a, b, c⟩ := h; ⟨es, a.same e, b, c⟩
theorem Bs.x {K : Frag} {H H' : Hp} {x st : Addr} {n : Int} {f : Int → Bool} {S : List Int} {l : List V} (h : Bs K H x n f S) (e : SameX st H H') (hst : H st = some (.lst l)) : Bs K H' x n f S := let ⟨es, a, b, c⟩ := h; ⟨es, a.x e hst, b, c⟩
theorem Bs.slt {K : Frag} {H : Hp} {x : Addr} {n : Int} {f : Int → Bool} {S : List Int} (h : Bs K H x n f S) : ∃ dx vs, SlX.Slt H x (He.ga K "Bitmap") dx vs := let ⟨_, ⟨_, _, _, dx, _, a, _⟩, _⟩ := h; ⟨dx, _, a⟩
theorem sweep_mem {r : Bool → Bool → Bool} {n z : Int} {es fs : List Int} (h1 : Ends n es) (h2 : Ends n fs) (h : z ∈ joinE r es fs) : z ∈ es ∨ z ∈ fs := by
  obtain ⟨_, b, _⟩ := sweep_law r _ es fs false false 0 (Nat.le_refl _) h1.1 h2.1 (fun x hx => (h1.2 x hx).1) (fun x hx => (h2.2 x hx).1)
  exact (b z h).2
theorem turned_memS {n z : Int} {es : List Int} (h : z ∈ mTurned es n) : z = 0 ∨ z ∈ es := by
  unfold mTurned at h
  split at h
  · cases h
  · split at h
    · exact .inr (List.mem_cons_of_mem _ h)
    · rcases List.mem_cons.mp h with h | h
      · exact .inl h
      · exact .inr h
section
variable {K : Frag} {H : Hp} {x y : Addr} {n : Int} {f g : Int → Bool} {S : List Int} {Q : VK} {E : XK}
theorem bs_join {r : Bool → Bool → Bool} (kn : Kn S) (h1 : Bs K H x n f S) (h2 : Bs K H y n g S) (h0 : r false false = false) (q : ∀ z H', Same H H' → H z = none → Bs K H' z n (fun row => r (f row) (g row)) S → Q (.ref z) H') : spJoin K r x y H Q E := by
  obtain ⟨es, b1, a1, c1⟩ := h1
  obtain ⟨fs, b2, a2, c2⟩ := h2
  have l1 := asc_len es S b1.2.2.1.1 a1
  have l2 := asc_len fs S b2.2.2.1.1 a2
  have l3 := kn.len
  refine ⟨n, n, es, fs, b1, b2, by omega, by omega, fun _ z H' e nz hz => q z H' e nz ⟨_, hz, fun w hw => ?_, fun row r0 r1 => ?_⟩, fun z => absurd rfl z⟩
  · rcases sweep_mem b1.2.2.1 b2.2.2.1 hw with hw | hw
    · exact a1 w hw
    · exact a2 w hw
  · rw [join_in b1.2.2.1 b2.2.2.1 h0, c1 row r0 r1, c2 row r0 r1]
theorem bs_O2 {P : Prop} (h1 : Bs K H x n f S) (h2 : Bs K H y n g S) (q : P) : IsO K H "Bitmap" x (IsO K H "Bitmap" y P) := by
  obtain ⟨dx, vs, a⟩ := h1.slt
  obtain ⟨dy, ws, b⟩ := h2.slt
  exact .of a (.of b q)
theorem bs_and (kn : Kn S) (h1 : Bs K H x n f S) (h2 : Bs K H y n g S) (q : ∀ z H', Same H H' → H z = none → Bs K H' z n (fun row => rAnd (f row) (g row)) S → Q (.ref z) H') : IsO K H "Bitmap" x (IsO K H "Bitmap" y (sp_Bitmapdd_anddd K [.ref x, .ref y] H Q E)) := bs_O2 h1 h2 ⟨x, y, rfl, bs_join kn h1 h2 rfl q⟩
theorem bs_or (kn : Kn S) (h1 : Bs K H x n f S) (h2 : Bs K H y n g S) (q : ∀ z H', Same H H' → H z = none → Bs K H' z n (fun row => rOr (f row) (g row)) S → Q (.ref z) H') : IsO K H "Bitmap" x (IsO K H "Bitmap" y (sp_Bitmapdd_ordd K [.ref x, .ref y] H Q E)) := bs_O2 h1 h2 ⟨x, y, rfl, bs_join kn h1 h2 rfl q⟩
theorem bs_xor (kn : Kn S) (h1 : Bs K H x n f S) (h2 : Bs K H y n g S) (q : ∀ z H', Same H H' → H z = none → Bs K H' z n (fun row => rXor (f row) (g row)) S → Q (.ref z) H') : IsO K H "Bitmap" x (IsO K H "Bitmap" y (sp_Bitmapdd_xordd K [.ref x, .ref y] H Q E)) := bs_O2 h1 h2 ⟨x, y, rfl, bs_join kn h1 h2 rfl q⟩
theorem bs_inv (kn : Kn S) (h1 : Bs K H x n f S) (q : ∀ z H', Same H H' → H z = none → Bs K H' z n (fun row => !(f row)) S → Q (.ref z) H') : IsO K H "Bitmap" x (sp_Bitmapdd_invertdd K [.ref x] H Q E) := by
  obtain ⟨dx, vs, a⟩ := h1.slt
  obtain ⟨es, b1, a1, c1⟩ := h1
  have l1 := asc_len es S b1.2.2.1.1 a1
  have l3 := kn.len
  refine .of a ⟨x, n, es, rfl, b1, by omega, fun z H' e nz hz => q z H' e nz ⟨_, hz, fun w hw => ?_, fun row r0 r1 => ?_⟩⟩
  · rcases turned_memS hw with hw | hw
    · rw [hw]; exact kn.zero
    · exact a1 w hw
  · rw [turned_in b1.2.2.1 r0 r1, c1 row r0 r1]
end
/-! ### lists of them -/
abbrev Slf := Addr × (Int → Bool)
def vF (t : Slf) : V := .ref t.1
def bitsF (M : List Slf) (row : Int) : List Bool := M.map fun t => t.2 row
def Bss (K : Frag) (H : Hp) (n : Int) (S : List Int) (M : List Slf) : Prop := ∀ t ∈ M, Bs K H t.1 n t.2 S
theorem Bss.same {K : Frag} {H H' : Hp} {n : Int} {S : List Int} {M : List Slf} (h : Bss K H n S M) (e : Same H H') : Bss K H' n S M := fun t ht => (h t ht).same e
theorem Bss.x {K : Frag} {H H' : Hp} {n : Int} {S : List Int} {M : List Slf} {st : Addr} {l : List V} (h : Bss K H n S M) (e : SameX st H H') (hst : H st = some (.lst l)) : Bss K H' n S M := fun t ht => (h t ht).x e hst
theorem Bss.sli {K : Frag} {H : Hp} {n : Int} {S : List Int} : ∀ {M : List Slf}, Bss K H n S M → ∃ T : List Sli, M.map vF = T.map vB ∧ T.length = M.length ∧ Bms K H n T ∧ (∀ t ∈ T, ∀ z ∈ t.2, z ∈ S) ∧ ∀ row, 0 ≤ row → row < n → T.map (fun t => inB t.2 row) = bitsF M row
  | [], _ => ⟨[], rfl, rfl, fun _ z => (nomatch z), fun _ z => (nomatch z), fun _ _ _ => rfl⟩
  | m :: M, h => by
    obtain ⟨T, h1, h2, h3, h4, h5⟩ := Bss.sli (M := M) fun t ht => h t (List.mem_cons_of_mem _ ht)
    obtain ⟨es, a, b, c⟩ := h m (List.mem_cons_self ..)
    refine ⟨(m.1, es) :: T, by rw [List.map_cons, List.map_cons, h1]; rfl, by simp [h2], fun t ht => ?_, fun t ht => ?_, fun row r0 r1 => ?_⟩
    · rcases List.mem_cons.mp ht with rfl | ht
      · exact a
      · exact h3 t ht
    · rcases List.mem_cons.mp ht with rfl | ht
      · exact b
      · exact h4 t ht
    · show inB es row :: _ = m.2 row :: _
      rw [c row r0 r1, h5 row r0 r1]; rfl
/-- bitmaps with their ends as such -/
theorem Bms.bss {K : Frag} {H : Hp} {n : Int} {S : List Int} {N : List Sli} (h : Bms K H n N) (hs : ∀ t ∈ N, ∀ z ∈ t.2, z ∈ S) : Bss K H n S (N.map fun t => (t.1, inB t.2)) := fun t ht => by
  obtain ⟨u, hu, rfl⟩ := List.mem_map.mp ht
  exact ⟨u.2, h u hu, hs u hu, fun _ _ _ => rfl⟩
theorem vF_sli (N : List Sli) : (N.map fun t => ((t.1, inB t.2) : Slf)).map vF = N.map vB := by rw [List.map_map]; rfl
theorem bitsF_sli (N : List Sli) (row : Int) : bitsF (N.map fun t => ((t.1, inB t.2) : Slf)) row = (N.map (·.2)).map (fun es => inB es row) := by
  unfold bitsF; rw [List.map_map, List.map_map]; rfl
/-! ### sums, negatives -/
def carB (x y c : Bool) : Bool := rOr (rAnd x y) (rAnd c (rXor x y))
def addB : List Bool → List Bool → Bool → List Bool
  | x :: a, y :: b, c => rXor (rXor x y) c :: addB a b (carB x y c)
  | _, _, _ => []
theorem addB_len : ∀ (a b : List Bool) (c : Bool), a.length = b.length → (addB a b c).length = a.length
  | [], [], _, _ => rfl
  | x :: a, y :: b, c, h => by
    show (addB a b _).length + 1 = a.length + 1
    rw [addB_len a b _ (by simpa using h)]
theorem addB_twos (x y : Bool) : ∀ (a b : List Bool) (c : Bool), a.length = b.length → twos (addB (a ++ [x, x]) (b ++ [y, y]) c) = twos (a ++ [x, x]) + twos (b ++ [y, y]) + b2n c
  | [], [], c, _ => by cases x <;> cases y <;> cases c <;> decide
  | u :: a, v :: b, c, h => by
    have hl : a.length = b.length := by simpa using h
    show twos (rXor (rXor u v) c :: addB (a ++ [x, x]) (b ++ [y, y]) (carB u v c)) = twos (u :: (a ++ [x, x])) + twos (v :: (b ++ [y, y])) + b2n c
    have ne : addB (a ++ [x, x]) (b ++ [y, y]) (carB u v c) ≠ [] := fun z => by
      have := addB_len (a ++ [x, x]) (b ++ [y, y]) (carB u v c) (by simp [hl])
      rw [z] at this; simp at this
    rw [twos_cons _ ne, twos_cons u (by simp), twos_cons v (by simp), addB_twos x y a b _ hl]
    have e : b2n (rXor (rXor u v) c) + 2 * b2n (carB u v c) = b2n u + b2n v + b2n c := by cases u <;> cases v <;> cases c <;> decide
    omega
def negB : List Bool → Bool → List Bool
  | x :: a, c => rXor (!x) c :: negB a (rAnd (!x) c)
  | [], _ => []
theorem negB_len : ∀ (a : List Bool) (c : Bool), (negB a c).length = a.length
  | [], _ => rfl
  | x :: a, c => by
    show (negB a _).length + 1 = a.length + 1
    rw [negB_len a _]
theorem negB_twos (x : Bool) : ∀ (a : List Bool) (c : Bool), twos (negB (a ++ [x, x]) c) = b2n c - 1 - twos (a ++ [x, x])
  | [], c => by cases x <;> cases c <;> decide
  | u :: a, c => by
    show twos (rXor (!u) c :: negB (a ++ [x, x]) (rAnd (!u) c)) = b2n c - 1 - twos (u :: (a ++ [x, x]))
    have ne : negB (a ++ [x, x]) (rAnd (!u) c) ≠ [] := fun z => by
      have := negB_len (a ++ [x, x]) (rAnd (!u) c)
      rw [z] at this; simp at this
    rw [twos_cons _ ne, twos_cons u (by simp), negB_twos x a _]
    have e : b2n (rXor (!u) c) + 2 * b2n (rAnd (!u) c) = b2n c + 1 - b2n u := by cases u <;> cases c <;> decide
    omega
theorem ext_top {α : Type} (A : List α) (y : α) (k : Nat) : A ++ [y] ++ List.replicate (k + 1) y = (A ++ List.replicate k y) ++ [y, y] := by
  have h2 : List.replicate k y ++ [y] = [y] ++ List.replicate k y := by rw [← List.replicate_succ']; rfl
  rw [List.replicate_succ', List.append_assoc, List.append_assoc]
  congr 1
  show [y] ++ (List.replicate k y ++ [y]) = _
  rw [← List.append_assoc, ← h2, List.append_assoc]; rfl
end S
namespace S
open PySem PySem.Spec PyProof.Rows L2
def t_Bitmap_cut_3 (K : Frag) (E : XK) : TS :=
    tRet (dGiv (CF K "Bitmap" ["ends", "size"]) (dMake K "Bitmap" (sp_Bitmapdd_initdd K) (EW E) (tCons (tOp oSub (dVar 2) (dVar 1)) (tCons (dVar 3) (tNil)))))
def t_Bitmap_cut_2 (K : Frag) (E : XK) : TS :=
    tSeq (dIfS (dAnd (dCmpT oLt (dVar 1) (dVar 2)) (dCmpT (oInO K "Bitmap" (sp_Bitmapdd_containsdd K) E) (dVar 1) (dVar 0))) (tAsg (tOp (oAdd K) (dLst (tCons (tC (.int 0)) (tNil))) (dVar 3)) (gName 3)) (tNext))
    (stop (t_Bitmap_cut_3 K E))
def t_Bitmap_cut_1 (K : Frag) (E : XK) : TS :=
    tSeq (tAsg (dLc (iSeq K (dAt K "ends" (dVar 0))) (gName 4) (dChainT oLt oLt (dVar 1) (dVar 4) (dVar 2)) (tOp oSub (dVar 4) (dVar 1)) [4]) (gName 3))
    (stop (t_Bitmap_cut_2 K E))
def t_Bitmap_cut (K : Frag) (E : XK) : TS :=
    tSeq (dIfS (dNot (dChain3T oLe oLe oLe (tC (.int 0)) (dVar 1) (dVar 2) (dAt K "size" (dVar 0)))) (dGivS (ExF K "BadBitmap" ["SliceError"]) (dRaise K "BadBitmap" (WD E))) (tNext))
    (stop (t_Bitmap_cut_1 K E))
end S
-- fn: Bitmap.cut
-- law: k07
-- in: Bitmap
-- deps: Bitmap_init Bitmap_contains Bs
namespace S
open PySem PySem.Spec PyProof.Rows L2
def cutI (es : List Int) (a b : Int) : List Int := (es.filter fun e => decide (a < e) && decide (e < b)).map fun e => e - a
def cutE (es : List Int) (a b : Int) : List Int := if a < b ∧ inB es a = true then 0 :: cutI es a b else cutI es a b
theorem cutI_in {a b row : Int} (r0 : 0 ≤ row) (r1 : row < b - a) : ∀ es : List Int, inB (cutI es a b) row = rXor (inB es (a + row)) (inB es a)
  | [] => rfl
  | e :: es => by
    have ih := cutI_in r0 r1 es
    unfold cutI at ih ⊢
    rw [List.filter_cons, inB_cons, inB_cons]
    by_cases h1 : e ≤ a
    · rw [if_neg (by rw [decide_eq_false (by omega)]; exact Bool.false_ne_true), if_pos (by omega), if_pos h1, ih]
      cases inB es (a + row) <;> cases inB es a <;> rfl
    · by_cases h2 : e < b
      · rw [if_pos (by rw [decide_eq_true (by omega), decide_eq_true h2]; rfl), List.map_cons, inB_cons, if_neg h1, ih]
        by_cases h3 : e ≤ a + row
        · rw [if_pos (by omega), if_pos h3]
          cases inB es (a + row) <;> cases inB es a <;> rfl
        · rw [if_neg (by omega), if_neg h3]
      · rw [if_neg (by rw [decide_eq_false h2, Bool.and_false]; exact Bool.false_ne_true), if_neg (by omega), if_neg h1, ih]
theorem cutE_in {es : List Int} {a b row : Int} (r0 : 0 ≤ row) (r1 : row < b - a) : inB (cutE es a b) row = inB es (a + row) := by
  unfold cutE
  split
  · rename_i h
    rw [inB_cons, if_pos r0, cutI_in r0 r1, h.2]
    cases inB es (a + row) <;> rfl
  · rename_i h
    have h : inB es a = false := by
      cases hi : inB es a with
      | false => rfl
      | true => exact absurd ⟨by omega, hi⟩ h
    rw [cutI_in r0 r1, h]
    cases inB es (a + row) <;> rfl
theorem cutI_mem {es : List Int} {a b z : Int} (h : z ∈ cutI es a b) : z + a ∈ es ∧ 0 < z ∧ z < b - a := by
  obtain ⟨e, he, rfl⟩ := List.mem_map.mp h
  obtain ⟨h1, h2⟩ := List.mem_filter.mp he
  rw [Bool.and_eq_true, decide_eq_true_eq, decide_eq_true_eq] at h2
  refine ⟨?_, by omega, by omega⟩
  rw [Int.sub_add_cancel]
  exact h1
theorem cutI_asc {es : List Int} {a b : Int} (h : es.Pairwise (· < ·)) : (cutI es a b).Pairwise (· < ·) := List.pairwise_map.mpr ((h.filter _).imp fun {x y} hxy => by omega)
theorem cutE_ends {n a b : Int} {es : List Int} (h : Ends n es) : Ends (b - a) (cutE es a b) := by
  have hI : Ends (b - a) (cutI es a b) := ⟨cutI_asc h.1, fun z hz => by obtain ⟨_, h1, h2⟩ := cutI_mem hz; omega⟩
  unfold cutE
  split
  · rename_i hc
    refine ⟨List.pairwise_cons.mpr ⟨fun z hz => (cutI_mem hz).2.1, hI.1⟩, fun z hz => ?_⟩
    rcases List.mem_cons.mp hz with rfl | hz
    · omega
    · exact hI.2 z hz
  · exact hI
theorem cutE_mem {es : List Int} {a b z : Int} (h : z ∈ cutE es a b) : z = 0 ∨ z + a ∈ es := by
  unfold cutE at h
  split at h
  · rcases List.mem_cons.mp h with h | h
    · exact .inl h
    · exact .inr (cutI_mem h).1
  · exact .inr (cutI_mem h).1
def sp_Bitmap_cut (K : Frag) : Sp := fun vs H Q E => ∃ (x : Addr) (n a b : Int) (es : List Int), vs = [.ref x, .int a, .int b] ∧ Bm K H x n es ∧ es.length ≤ 40000 ∧
  (0 ≤ a → a ≤ b → b ≤ n → ∀ z H', Same H H' → H z = none → Bm K H' z (b - a) (cutE es a b) → Q (.ref z) H') ∧
  (¬ (0 ≤ a ∧ a ≤ b ∧ b ≤ n) → XF K "BadBitmap" → ∀ H', Same H H' → E (.ref (He.ga K "BadBitmap")) none H')
theorem pure_Bitmap_cut {K : Frag} (vs : List V) (H : Hp) (Q : VK) (E : XK) (h : sp_Bitmap_cut K vs H Q E) : t_Bitmap_cut K E { nx := fun _ H' => Q .non H', rt := Q } (start ["self", "start", "stop", "ends", "end"] vs) H := by
  obtain ⟨x, n, a, b, es, rfl, hb, hl, good, bad⟩ := h
  obtain ⟨cf, n0, hE, dx, p, hs, hp⟩ := id hb
  have raise : ¬ (0 ≤ a ∧ a ≤ b ∧ b ≤ n) → ∀ k σ, dGivS (ExF K "BadBitmap" ["SliceError"]) (dRaise K "BadBitmap" (WD E)) k σ H := fun hn k σ xf => bad hn xf H (Same.refl _)
  walk_at "gx"
  refine ifd (fun h1 => ?_) (fun h1 => raise (fun z => h1 z.1) _ _)
  refine ifd (fun h2 => ?_) (fun h2 => raise (fun z => h2 z.2.1) _ _)
  refine Atr.sl cf hs (i := 1) rfl rfl ?_
  show bIf (!decide (b ≤ n)) _ _
  refine ifn (fun h3 => raise (fun z => h3 z.2.2) _ _) (fun h3 => ?_)
  walk_at "gx"
  refine Atr.sl cf hs (i := 0) rfl rfl ?_
  refine lc_map (fun v => match v with | .int e => .int (e - a) | v => v) (fun v => match v with | .int e => decide (a < e) && decide (e < b) | _ => false) (.inr hp) (by rw [sizeLine_eq, List.length_map]; omega) ?_ fun D H1 nD hD e1 => ?_
  · intro v H1 A B hm e hA hB
    obtain ⟨i, hi, rfl⟩ := List.mem_map.mp hm
    refine ⟨rfl, ?_⟩
    refine ifd (fun q1 => ?_) (fun q1 => ?_)
    · show if (decide (i < b)) = true then _ else _
      refine ifc (fun q2 => ?_) (fun q2 => ?_)
      · exact hA _ (Same.refl _) (by show (decide (a < i) && decide (i < b)) = true; rw [decide_eq_true q1, decide_eq_true q2]; rfl)
      · exact hB _ (Same.refl _) (by show (decide (a < i) && decide (i < b)) = false; rw [decide_eq_false q2, Bool.and_false])
    · exact hB _ (Same.refl _) (by show (decide (a < i) && decide (i < b)) = false; rw [decide_eq_false q1]; rfl)
  have em : ((es.map V.int).filter fun v => match v with | .int e => decide (a < e) && decide (e < b) | _ => false).map (fun v => match v with | .int e => .int (e - a) | v => v) = (cutI es a b).map V.int :=
    map_filter_ints _ _ (fun e => decide (a < e) && decide (e < b)) (fun e => e - a) (fun _ => rfl) (fun _ => rfl)
  rw [em] at hD
  have lI : (cutI es a b).length ≤ 40000 := by
    unfold cutI
    rw [List.length_map]
    exact Nat.le_trans (List.length_filter_le _ _) hl
  have mk : ∀ (q : Addr) (H2 : Hp) (o : Option V), Same H H2 → H2 q = some (.lst ((cutE es a b).map V.int)) → t_Bitmap_cut_3 K E { nx := fun _ H' => Q .non H', rt := Q } [some (.ref x), some (.int a), some (.int b), some (.ref q), o] H2 := by
    intro q H2 o e2 hq
    walk_at "gx"
    refine fun cf => mk_bitmap cf (.inl (SqL.of hq)) (fun _ _ z H3 e3 nz hz => ?_) (fun nb => absurd ⟨by show 0 ≤ b - a; omega, cutE_ends hE⟩ nb)
    refine good h1 h2 h3 z H3 (e2.trans e3) ?_ hz
    cases hx : H z with
    | none => rfl
    | some o => have := e2 _ _ hx; rw [nz] at this; cases this
  walk_at "gx"
  refine ifd (fun q1 => ?_) (fun q1 => ?_)
  · refine .of (Same.slt e1 hs) ⟨x, n, es, a, rfl, hb.same e1, by omega, fun H2 e2 => ?_⟩
    have er : rowIn n es a = inB es a := by
      have q1 : a < b := q1
      unfold rowIn
      rw [decide_eq_true h1, decide_eq_true (by omega)]; rfl
    rw [er]
    show bIf (inB es a) _ _
    refine ifb (fun hi => ?_) (fun hi => ?_)
    · walk_at "gx"
      refine ⟨fun d nd => ?_⟩
      have e3 := same_new (o := .lst [V.int 0]) nd
      have hD3 := e3 _ _ (e2 _ _ hD)
      refine Cat.l (xs := [V.int 0]) upd_same hD3 (by rw [sizeLine_eq, List.length_map]; simp; omega) fun d2 nd2 => ?_
      have e4 := same_new (o := .lst ([V.int 0] ++ (cutI es a b).map V.int)) nd2
      refine ⟨mk d2 _ _ (((e1.trans e2).trans e3).trans e4) ?_⟩
      unfold cutE
      rw [if_pos ⟨q1, hi⟩, upd_same]
      rfl
    · refine ⟨mk D _ _ (e1.trans e2) ?_⟩
      unfold cutE
      rw [if_neg (fun z => by rw [hi] at z; cases z.2)]
      exact e2 _ _ hD
  · refine ⟨mk D _ _ e1 ?_⟩
    unfold cutE
    rw [if_neg fun z => q1 z.1]
    exact hD
end S
namespace S
open PySem PySem.Spec PyProof.Rows L2
def t__law_is_cut_b1 (K : Frag) (E : XK) : TS :=
    dIfS (dAnd (dCmpT oLt (dVar 4) (tOp oSub (dVar 3) (dVar 2))) (dCmpT (oNe K) (dCall (sp__law_in K) (EW E) (tCons (dAt K "ends" (dVar 0)) (tCons (dVar 4) (tNil)))) (dCall (sp__law_in K) (EW E) (tCons (dVar 1) (tCons (tOp (oAdd K) (dVar 2) (dVar 4)) (tNil)))))) (tRet (tC (.bl false))) (tNext)
def t__law_is_cut_2 (K : Frag) (E : XK) : TS :=
    tRet (tC (.bl true))
def t__law_is_cut_1 (K : Frag) (E : XK) : TS :=
    tSeq (dFor (iSeq K (tOp (oAdd K) (tOp (oAdd K) (dLst (tCons (tC (.int 0)) (tNil))) (tCB (cList K) (tCons (dAt K "ends" (dVar 0)) (tNil)))) (dLc (iSeq K (dVar 1)) (gName 5) (dCmpT oGt (dVar 5) (dVar 2)) (tOp oSub (dVar 5) (dVar 2)) [5]))) (gName 4) (t__law_is_cut_b1 K E))
    (stop (t__law_is_cut_2 K E))
def t__law_is_cut (K : Frag) (E : XK) : TS :=
    tSeq (dIfS (dNot (dTest K (dCall (sp__law_is_bitmap K) (EW E) (tCons (dVar 0) (tCons (tOp oSub (dVar 3) (dVar 2)) (tNil)))))) (tRet (tC (.bl false))) (tNext))
    (stop (t__law_is_cut_1 K E))
end S
-- fn: _law_is_cut
-- law: k07
-- deps: Bitmap_cut _law_in _law_is_bitmap Li
namespace S
open PySem PySem.Spec PyProof.Rows L2
def sp__law_is_cut (K : Frag) : Sp := fun vs H Q _ => ∃ (z p : Addr) (n a b : Int) (es : List Int), vs = [.ref z, .ref p, .int a, .int b] ∧ Bm K H z (b - a) (cutE es a b) ∧ H p = some (.lst (es.map V.int)) ∧ Ends n es ∧ 0 ≤ a ∧ a ≤ b ∧ b ≤ n ∧ es.length ≤ 1000 ∧ ∀ H', Same H H' → Q (.bl true) H'
theorem pure__law_is_cut {K : Frag} (vs : List V) (H : Hp) (Q : VK) (E : XK) (h : sp__law_is_cut K vs H Q E) : t__law_is_cut K E { nx := fun _ H' => Q .non H', rt := Q } (start ["_law_made", "_law_ends_here", "_law_start", "_law_stop", "_law_row", "_law_end"] vs) H := by
  obtain ⟨z, p, n, a, b, es, rfl, hz, hp, hE, a0, ab, bn, le, q⟩ := h
  obtain ⟨cf, _, hC, dx, u, sl, hu⟩ := id hz
  have lc : (cutE es a b).length ≤ 1001 := by
    have : (cutI es a b).length ≤ 1000 := by
      unfold cutI
      rw [List.length_map]
      exact Nat.le_trans (List.length_filter_le _ _) le
    unfold cutE
    split
    · rw [List.length_cons]; omega
    · omega
  refine ⟨z, b - a, cutE es a b, rfl, hz, ?_⟩
  walk_at "gx"
  refine new_ints [0] fun d1 H1 e1 _ h1 => ?_
  refine Atr.sl cf (Same.slt e1 sl) (i := 0) rfl rfl ?_
  have hu1 := Same.tup e1 hu
  walk_at "gx"
  refine new_ints (cutE es a b) fun d2 H2 e2 _ h2 => ?_
  refine cat_ints (e2 _ _ h1) h2 (by simp; omega) fun d3 H3 e3 _ h3 => ?_
  have e13 := (e1.trans e2).trans e3
  have hp3 := e13 _ _ hp
  walk_at "gx"
  refine lc_ints es (fun i => i - a) (fun i => decide (a < i)) (.inl (SqL.of hp3)) (by omega) (fun i H6 A B hi e6 hA hB => ⟨rfl, ?_⟩) fun d4 H4 nd4 h4 e4 => ?_
  · show if decide (a < i) = true then _ else _
    refine ifc (fun h => ?_) (fun h => ?_)
    · exact hA H6 (Same.refl _) (decide_eq_true h)
    · exact hB H6 (Same.refl _) (decide_eq_false h)
  have lf : ((es.filter fun i => decide (a < i)).map fun i => i - a).length ≤ 1000 := by
    rw [List.length_map]
    exact Nat.le_trans (List.length_filter_le _ _) le
  have pos : ∀ j ∈ ([0] ++ cutE es a b) ++ (es.filter fun i => decide (a < i)).map fun i => i - a, 0 ≤ j := fun j hj => by
    rcases List.mem_append.mp hj with hj | hj
    · rcases List.mem_append.mp hj with hj | hj
      · rw [List.mem_singleton.mp hj]; exact Int.le_refl _
      · exact (hC.2 j hj).1
    · obtain ⟨i, hi, rfl⟩ := List.mem_map.mp hj
      have := of_decide_eq_true (List.mem_filter.mp hi).2
      omega
  refine cat_ints (e4 _ _ h3) h4 (by simp only [List.length_append, List.length_cons, List.length_nil]; omega) fun d5 H5 e5 _ h5 => ?_
  have e05 := (e13.trans e4).trans e5
  refine for_seq (K := K) (fun i σ HA => ∃ (r x : Option V), σ = [some (.ref z), some (.ref p), some (.int a), some (.int b), r, x] ∧ Same H5 HA) (.inl (SqL.of h5)) ⟨none, none, rfl, Same.refl _⟩ (fun i σ H1 _ z => let ⟨_, _, _, e⟩ := z; Same.stay e) ?_ ?_
  · rintro i v σ HA hj ⟨r, x, rfl, eA⟩
    obtain ⟨j, hj2, rfl⟩ := map_get hj
    have j0 := pos j (List.mem_of_getElem? hj2)
    have e0A := e05.trans eA
    refine ifd (fun r1 => ?_) (fun r1 => ⟨_, _, rfl, eA⟩)
    refine Atr.sl cf (Same.slt e0A sl) (i := 0) rfl rfl ?_
    refine ⟨u, cutE es a b, j, rfl, .inr (Same.tup e0A hu), ?_⟩
    refine ⟨p, es, a + j, rfl, .inl (SqL.of (e0A _ _ hp)), ?_⟩
    rw [cutE_in j0 r1]
    refine ifnf rfl ?_
    exact ⟨_, _, rfl, eA⟩
  · rintro σ HA ⟨r, x, rfl, eA⟩
    walk_at "gx"
    exact q HA (e05.trans eA)
end S
namespace S
open PySem PySem.Spec PyProof.Rows L2
def t_Bitmap_joined_2 (K : Frag) (E : XK) : TS :=
    tRet (dGiv (CF K "Bitmap" ["ends", "size"]) (dMake K "Bitmap" (sp_Bitmapdd_initdd K) (EW E) (tCons (tOp (oAdd K) (dAt K "size" (dVar 0)) (dAt K "size" (dVar 1))) (tCons (tOp (oAdd K) (tCB (cList K) (tCons (dAt K "ends" (dVar 0)) (tNil))) (dLc (iSeq K (dVar 2)) (gName 3) (tYes) (tOp (oAdd K) (dAt K "size" (dVar 0)) (dVar 3)) [3])) (tNil)))))
def t_Bitmap_joined_1 (K : Frag) (E : XK) : TS :=
    tSeq (dIfS (dCmpT (oEq K) (tOp oAnd (tCB (cLen K) (tCons (dAt K "ends" (dVar 0)) (tNil))) (tC (.int 1))) (tC (.int 1))) (tAsg (dCall (sp_turned K) (EW E) (tCons (dVar 2) (tCons (dAt K "size" (dVar 1)) (tNil)))) (gName 2)) (tNext))
    (stop (t_Bitmap_joined_2 K E))
def t_Bitmap_joined (K : Frag) (E : XK) : TS :=
    tSeq (tAsg (dAt K "ends" (dVar 1)) (gName 2))
    (stop (t_Bitmap_joined_1 K E))
end S
-- fn: Bitmap.joined
-- law: k07
-- deps: Bitmap_init turned turned_law Bs
namespace S
open PySem PySem.Spec PyProof.Rows L2
def jnE (n m : Int) (es fs : List Int) : List Int := es ++ (if es.length % 2 = 1 then mTurned fs m else fs).map fun e => n + e
theorem inB_shift (n row : Int) : ∀ fs : List Int, inB (fs.map fun e => n + e) row = inB fs (row - n)
  | [] => rfl
  | e :: fs => by
    rw [List.map_cons, inB_cons, inB_cons, inB_shift n row fs]
    by_cases h : n + e ≤ row
    · rw [if_pos h, if_pos (by omega)]
    · rw [if_neg h, if_neg (by omega)]
theorem inB_appL {row : Int} {gs : List Int} (hg : ∀ x ∈ gs, row < x) : ∀ es : List Int, inB (es ++ gs) row = inB es row
  | [] => inB_before hg
  | e :: es => by rw [List.cons_append, inB_cons, inB_cons, inB_appL hg es]
theorem inB_appR {row : Int} {gs : List Int} : ∀ es : List Int, (∀ x ∈ es, x ≤ row) → inB (es ++ gs) row = rXor (decide (es.length % 2 = 1)) (inB gs row)
  | [], _ => by
    show inB gs row = rXor false (inB gs row)
    cases inB gs row <;> rfl
  | e :: es, h => by
    rw [List.cons_append, inB_cons, if_pos (h e List.mem_cons_self), inB_appR es fun x hx => h x (List.mem_cons_of_mem _ hx)]
    by_cases h2 : es.length % 2 = 1
    · rw [decide_eq_true h2, List.length_cons, decide_eq_false (by omega)]
      cases inB gs row <;> rfl
    · rw [decide_eq_false h2, List.length_cons, decide_eq_true (by omega)]
      cases inB gs row <;> rfl
theorem jnE_low {n m row : Int} {es fs : List Int} (hf : Ends m fs) (r1 : row < n) : inB (jnE n m es fs) row = inB es row := by
  refine inB_appL (fun x hx => ?_) es
  obtain ⟨e, he, rfl⟩ := List.mem_map.mp hx
  have : 0 ≤ e := by
    split at he
    · rcases turned_memS he with h | h
      · omega
      · exact (hf.2 e h).1
    · exact (hf.2 e he).1
  omega
theorem jnE_high {n m row : Int} {es fs : List Int} (he : Ends n es) (hf : Ends m fs) (r0 : n ≤ row) (r1 : row < n + m) : inB (jnE n m es fs) row = inB fs (row - n) := by
  unfold jnE
  rw [inB_appR es fun x hx => by have := he.2 x hx; omega, inB_shift]
  split
  · rename_i h
    rw [turned_in hf (by omega) (by omega), decide_eq_true h]
    cases inB fs (row - n) <;> rfl
  · rename_i h
    rw [decide_eq_false h]
    cases inB fs (row - n) <;> rfl
theorem jnE_ends {n m : Int} {es fs : List Int} (n0 : 0 ≤ n) (m0 : 0 ≤ m) (he : Ends n es) (hf : Ends m fs) : Ends (n + m) (jnE n m es fs) := by
  have hg : Ends m (if es.length % 2 = 1 then mTurned fs m else fs) := by
    split
    · exact turned_ends hf m0
    · exact hf
  refine ⟨List.pairwise_append.mpr ⟨he.1, List.pairwise_map.mpr (hg.1.imp fun {x y} h => by omega), fun x hx y hy => ?_⟩, fun x hx => ?_⟩
  · obtain ⟨e, h, rfl⟩ := List.mem_map.mp hy
    have := he.2 x hx
    have := hg.2 e h
    omega
  · rcases List.mem_append.mp hx with hx | hx
    · have := he.2 x hx; omega
    · obtain ⟨e, h, rfl⟩ := List.mem_map.mp hx
      have := hg.2 e h
      omega
theorem jnE_mem {n m z : Int} {es fs : List Int} (h : z ∈ jnE n m es fs) : z ∈ es ∨ z = n ∨ z - n ∈ fs := by
  rcases List.mem_append.mp h with h | h
  · exact .inl h
  · obtain ⟨e, he, rfl⟩ := List.mem_map.mp h
    have e2 : n + e - n = e := by omega
    rw [e2]
    split at he
    · rcases turned_memS he with h | h
      · exact .inr (.inl (by omega))
      · exact .inr (.inr h)
    · exact .inr (.inr he)
def sp_Bitmap_joined (K : Frag) : Sp := fun vs H Q _ => ∃ (x y : Addr) (n m : Int) (es fs : List Int), vs = [.ref x, .ref y] ∧ Bm K H x n es ∧ Bm K H y m fs ∧ es.length ≤ 40000 ∧ fs.length ≤ 40000 ∧
  ∀ z H', Same H H' → H z = none → Bm K H' z (n + m) (jnE n m es fs) → Q (.ref z) H'
theorem pure_Bitmap_joined {K : Frag} (vs : List V) (H : Hp) (Q : VK) (E : XK) (h : sp_Bitmap_joined K vs H Q E) : t_Bitmap_joined K E { nx := fun _ H' => Q .non H', rt := Q } (start ["self", "other", "ends", "end"] vs) H := by
  obtain ⟨x, y, n, m, es, fs, rfl, hx, hy, lx, ly, q⟩ := h
  obtain ⟨cf, n0, hE, dx, p, hs, hp⟩ := id hx
  obtain ⟨_, m0, hF, dy, u, hs2, hu⟩ := id hy
  have fin : ∀ (t : Addr) (H1 : Hp), Same H H1 → SqT K H1 t ((if es.length % 2 = 1 then mTurned fs m else fs).map V.int) → t_Bitmap_joined_2 K E { nx := fun _ H' => Q .non H', rt := Q } [some (.ref x), some (.ref y), some (.ref t), none] H1 := by
    intro t H1 e1 ht
    have lg : (if es.length % 2 = 1 then mTurned fs m else fs).length ≤ 40001 := by
      split
      · have := turned_len (ns := fs) (size := m); omega
      · omega
    generalize hgs : (if es.length % 2 = 1 then mTurned fs m else fs) = gs at ht lg
    refine fun cf => ?_
    refine Atr.sl cf (Same.slt e1 hs) (i := 1) rfl rfl ?_
    refine Atr.sl cf (Same.slt e1 hs2) (i := 1) rfl rfl ?_
    refine Atr.sl cf (Same.slt e1 hs) (i := 0) rfl rfl ?_
    have hp1 := Same.tup e1 hp
    walk_at "gx"
    refine ⟨fun d nd => ?_⟩
    have e2 := same_new (o := .lst (es.map V.int)) nd
    have hd : upd H1 d (.lst (es.map V.int)) d = some (.lst (es.map V.int)) := upd_same
    generalize upd H1 d (.lst (es.map V.int)) = H2 at *
    have ht2 := Same.tup e2 ht
    refine lc_map (fun v => match v with | .int e => .int (n + e) | v => v) (fun _ => true) (.inr ht2) (by rw [sizeLine_eq, List.length_map]; omega) ?_ fun D H3 nD hD e3 => ?_
    · intro v H4 A B hm e hA hB
      obtain ⟨i, hi, rfl⟩ := List.mem_map.mp hm
      refine ⟨rfl, ?_⟩
      refine Atr.sl cf (Same.slt ((e1.trans e2).trans e) hs) (i := 1) rfl rfl ?_
      exact hA _ (Same.refl _) rfl
    have em : ((gs.map V.int).filter fun _ => true).map (fun v => match v with | .int e => .int (n + e) | v => v) = (gs.map fun e => n + e).map V.int := by
      rw [List.filter_eq_self.mpr (fun _ _ => rfl), List.map_map, List.map_map]
      rfl
    rw [em] at hD
    refine Cat.l (e3 _ _ hd) hD (by rw [sizeLine_eq, List.length_map, List.length_map, List.length_map]; omega) fun d2 nd2 => ?_
    have ej : es.map V.int ++ (gs.map fun e => n + e).map V.int = (jnE n m es fs).map V.int := by
      unfold jnE
      rw [hgs, List.map_append]
    rw [ej]
    have e4 := same_new (o := .lst ((jnE n m es fs).map V.int)) nd2
    refine mk_bitmap cf (.inl (SqL.of upd_same)) (fun _ _ z H5 e5 nz hz => ?_) (fun nb => absurd ⟨by show 0 ≤ n + m; omega, jnE_ends n0 m0 hE hF⟩ nb)
    have eX := ((e1.trans e2).trans e3).trans e4
    refine q z H5 (eX.trans e5) ?_ hz
    cases hx : H z with
    | none => rfl
    | some o => have := eX _ _ hx; rw [nz] at this; cases this
  walk_at "gx"
  refine Atr.sl cf hs2 (i := 0) rfl rfl ?_
  walk_at "gx"
  refine Atr.sl cf hs (i := 0) rfl rfl ?_
  walk_at "gx"
  have eo : (Builtin.bitAnd (((es.map V.int).length : Nat) : Int) 1) = (((es.length % 2 : Nat)) : Int) := by
    rw [bitAnd_m1, List.length_map]; omega
  show bIf (decide (Builtin.bitAnd (((es.map V.int).length : Nat) : Int) 1 = 1)) _ _
  rw [eo]
  refine ifd (fun h => ?_) (fun h => ?_)
  · have h : es.length % 2 = 1 := by omega
    walk_at "gx"
    refine Atr.sl cf hs2 (i := 1) rfl rfl ?_
    refine ⟨u, fs, m, rfl, .inr hu, by omega, fun t H1 e1 ht => ?_⟩
    exact ⟨fin t H1 e1 (by rw [if_pos h]; exact ht)⟩
  · have h : ¬ es.length % 2 = 1 := by omega
    exact ⟨fin u H (Same.refl _) (by rw [if_neg h]; exact hu)⟩
end S
namespace S
open PySem PySem.Spec PyProof.Rows L2
def t__law_is_joined_b1_1 (K : Frag) (E : XK) : TS :=
    dIfS (dAnd (dCmpT oLe (dVar 1) (dVar 5)) (dAnd (dCmpT oLt (dVar 5) (tOp (oAdd K) (dVar 1) (dVar 3))) (dCmpT (oNe K) (dCall (sp__law_in K) (EW E) (tCons (dAt K "ends" (dVar 0)) (tCons (dVar 5) (tNil)))) (dCall (sp__law_in K) (EW E) (tCons (dVar 4) (tCons (tOp oSub (dVar 5) (dVar 1)) (tNil))))))) (tRet (tC (.bl false))) (tNext)
def t__law_is_joined_b1 (K : Frag) (E : XK) : TS :=
    tSeq (dIfS (dAnd (dCmpT oLt (dVar 5) (dVar 1)) (dCmpT (oNe K) (dCall (sp__law_in K) (EW E) (tCons (dAt K "ends" (dVar 0)) (tCons (dVar 5) (tNil)))) (dCall (sp__law_in K) (EW E) (tCons (dVar 2) (tCons (dVar 5) (tNil)))))) (tRet (tC (.bl false))) (tNext))
    (stop (t__law_is_joined_b1_1 K E))
def t__law_is_joined_2 (K : Frag) (E : XK) : TS :=
    tRet (tC (.bl true))
def t__law_is_joined_1 (K : Frag) (E : XK) : TS :=
    tSeq (dFor (iSeq K (tOp (oAdd K) (tOp (oAdd K) (tOp (oAdd K) (dLst (tCons (tC (.int 0)) (tCons (dVar 1) (tNil)))) (tCB (cList K) (tCons (dAt K "ends" (dVar 0)) (tNil)))) (dVar 2)) (dLc (iSeq K (dVar 4)) (gName 6) (tYes) (tOp (oAdd K) (dVar 1) (dVar 6)) [6]))) (gName 5) (t__law_is_joined_b1 K E))
    (stop (t__law_is_joined_2 K E))
def t__law_is_joined (K : Frag) (E : XK) : TS :=
    tSeq (dIfS (dNot (dTest K (dCall (sp__law_is_bitmap K) (EW E) (tCons (dVar 0) (tCons (tOp (oAdd K) (dVar 1) (dVar 3)) (tNil)))))) (tRet (tC (.bl false))) (tNext))
    (stop (t__law_is_joined_1 K E))
end S
-- fn: _law_is_joined
-- law: k07
-- deps: Bitmap_joined _law_in _law_is_bitmap Li
namespace S
open PySem PySem.Spec PyProof.Rows L2
theorem jnE_len {n m : Int} {es fs : List Int} : (jnE n m es fs).length ≤ es.length + fs.length + 1 := by
  unfold jnE
  rw [List.length_append, List.length_map]
  split
  · have := turned_len (ns := fs) (size := m); omega
  · omega
def sp__law_is_joined (K : Frag) : Sp := fun vs H Q _ => ∃ (z p r : Addr) (n m : Int) (es fs : List Int), vs = [.ref z, .int n, .ref p, .int m, .ref r] ∧ Bm K H z (n + m) (jnE n m es fs) ∧ H p = some (.lst (es.map V.int)) ∧ H r = some (.lst (fs.map V.int)) ∧ Ends n es ∧ Ends m fs ∧ 0 ≤ n ∧ 0 ≤ m ∧ es.length ≤ 1000 ∧ fs.length ≤ 1000 ∧ ∀ H', Same H H' → Q (.bl true) H'
theorem pure__law_is_joined {K : Frag} (vs : List V) (H : Hp) (Q : VK) (E : XK) (h : sp__law_is_joined K vs H Q E) : t__law_is_joined K E { nx := fun _ H' => Q .non H', rt := Q } (start ["_law_made", "_law_size_here", "_law_one", "_law_far", "_law_other", "_law_row", "_law_end"] vs) H := by
  obtain ⟨z, p, r, n, m, es, fs, rfl, hz, hp, hr, hE, hF, n0, m0, le, lf, q⟩ := h
  obtain ⟨cf, _, hC, dx, u, sl, hu⟩ := id hz
  have lj := jnE_len (n := n) (m := m) (es := es) (fs := fs)
  generalize hgs : jnE n m es fs = gs at hz hC hu lj
  refine ⟨z, n + m, gs, rfl, hz, ?_⟩
  walk_at "gx"
  refine new_ints [0, n] fun d1 H1 e1 _ h1 => ?_
  refine Atr.sl cf (Same.slt e1 sl) (i := 0) rfl rfl ?_
  have hu1 := Same.tup e1 hu
  walk_at "gx"
  refine new_ints gs fun d2 H2 e2 _ h2 => ?_
  refine cat_ints (e2 _ _ h1) h2 (by simp; omega) fun d3 H3 e3 _ h3 => ?_
  have e13 := (e1.trans e2).trans e3
  refine cat_ints h3 (e13 _ _ hp) (by simp; omega) fun d4 H4 e4 _ h4 => ?_
  have hr4 := (e13.trans e4) _ _ hr
  walk_at "gx"
  refine lc_ints fs (fun i => n + i) (fun _ => true) (.inl (SqL.of hr4)) (by omega) (fun i H6 A B hi e6 hA hB => ⟨rfl, hA H6 (Same.refl _) rfl⟩) fun d5 H5 nd5 h5 e5 => ?_
  rw [List.filter_eq_self.mpr (fun _ _ => rfl)] at h5
  refine cat_ints (e5 _ _ h4) h5 (by simp; omega) fun d6 H6 e6 _ h6 => ?_
  have e06 := ((e13.trans e4).trans e5).trans e6
  have pos : ∀ j ∈ (([0, n] ++ gs) ++ es) ++ fs.map fun i => n + i, 0 ≤ j := fun j hj => by
    simp only [List.mem_append, List.mem_cons, List.not_mem_nil, or_false, List.mem_map] at hj
    rcases hj with (((rfl | rfl) | h) | h) | ⟨i, h, rfl⟩
    · exact Int.le_refl _
    · exact n0
    · exact (hC.2 j h).1
    · exact (hE.2 j h).1
    · have := (hF.2 i h).1; omega
  refine for_seq (K := K) (fun i σ HA => ∃ (w x : Option V), σ = [some (.ref z), some (.int n), some (.ref p), some (.int m), some (.ref r), w, x] ∧ Same H6 HA) (.inl (SqL.of h6)) ⟨none, none, rfl, Same.refl _⟩ (fun i σ H1 _ z => let ⟨_, _, _, e⟩ := z; Same.stay e) ?_ ?_
  · rintro i v σ HA hj ⟨w, x, rfl, eA⟩
    obtain ⟨j, hj2, rfl⟩ := map_get hj
    have j0 := pos j (List.mem_of_getElem? hj2)
    have e0A := e06.trans eA
    have second : ∀ (D : L2.Ends), (∀ σ H1, (∃ (w x : Option V), σ = [some (.ref z), some (.int n), some (.ref p), some (.int m), some (.ref r), w, x] ∧ Same H6 H1) → D.nx σ H1) → t__law_is_joined_b1_1 K E D [some (.ref z), some (.int n), some (.ref p), some (.int m), some (.ref r), some (.int j), x] HA := by
      intro D hD
      refine ifd (fun r1 => ?_) (fun r1 => hD _ _ ⟨_, _, rfl, eA⟩)
      refine ifd (fun r2 => ?_) (fun r2 => hD _ _ ⟨_, _, rfl, eA⟩)
      refine Atr.sl cf (Same.slt e0A sl) (i := 0) rfl rfl ?_
      refine ⟨u, gs, j, rfl, .inr (Same.tup e0A hu), ?_⟩
      refine ⟨r, fs, j - n, rfl, .inl (SqL.of (e0A _ _ hr)), ?_⟩
      rw [← hgs, jnE_high hE hF r1 r2]
      refine ifnf rfl ?_
      exact hD _ _ ⟨_, _, rfl, eA⟩
    refine ifd (fun r1 => ?_) (fun r1 => ⟨second _ fun _ _ z => z⟩)
    refine Atr.sl cf (Same.slt e0A sl) (i := 0) rfl rfl ?_
    refine ⟨u, gs, j, rfl, .inr (Same.tup e0A hu), ?_⟩
    refine ⟨p, es, j, rfl, .inl (SqL.of (e0A _ _ hp)), ?_⟩
    rw [← hgs, jnE_low hF r1]
    refine ifnf rfl ?_
    exact ⟨second _ fun _ _ z => z⟩
  · rintro σ HA ⟨w, x, rfl, eA⟩
    walk_at "gx"
    exact q HA (e06.trans eA)
end S
-- deps: D0 D1
namespace S
open PySem PySem.Spec PyProof.Rows L2
theorem dp_bls {K : Frag} {H : Hp} : ∀ ns : List Bool, DpAll K H (ns.map V.bl) (ns.map PyData.bool)
  | [] => .nil
  | n :: r => .cons (.bl n) (dp_bls r)
theorem can_bls : ∀ ns : List Bool, PyData.canLayAll0 (ns.map PyData.bool) = true
  | [] => rfl
  | n :: r => by
    show (PyData.canLay0 (.bool n) && PyData.canLayAll0 (r.map PyData.bool)) = true
    rw [can_bls r]; rfl
theorem dep_bls : ∀ ns : List Bool, PyData.depthAll (ns.map PyData.bool) = 0
  | [] => rfl
  | n :: r => by
    show max (PyData.depth (.bool n)) (PyData.depthAll (r.map PyData.bool)) = 0
    rw [dep_bls r]; rfl
theorem shp_bls (ns : List Bool) : SeqAt.shaped (.list (ns.map PyData.bool)) = true := by
  unfold SeqAt.shaped
  have e1 : PyData.canLay0 (.list (ns.map PyData.bool)) = true := can_bls ns
  have e2 : PyData.depth (.list (ns.map PyData.bool)) = 1 := by show PyData.depthAll _ + 1 = 1; rw [dep_bls]
  rw [e1, e2]; rfl
theorem eqv_bls : ∀ xs ys : List Bool, PyData.eqvAll (xs.map PyData.bool) (ys.map PyData.bool) = decide (xs = ys)
  | [], [] => rfl
  | [], _ :: _ => by simp [PyData.eqvAll]
  | _ :: _, [] => by simp [PyData.eqvAll]
  | x :: xs, y :: ys => by
    show (PyData.eqv (.bool x) (.bool y) && PyData.eqvAll (xs.map PyData.bool) (ys.map PyData.bool)) = _
    rw [eqv_bls xs ys]
    have e : PyData.eqv (.bool x) (.bool y) = decide (x = y) := by cases x <;> cases y <;> rfl
    rw [e]
    by_cases h : x = y <;> by_cases h2 : xs = ys <;> simp [h, h2]
theorem eqd_bb {K : Frag} {H : Hp} {a b : Addr} {xs ys : List Bool} {k : Bool → Prop} (h : SqL K H a (xs.map V.bl)) (h2 : SqL K H b (ys.map V.bl)) (q : k (decide (xs = ys))) : EqD K H (.ref a) (.ref b) k :=
  ⟨_, _, .lst h (dp_bls xs), .lst h2 (dp_bls ys), shp_bls xs, shp_bls ys, by
    have e : PyData.eqv (.list (xs.map PyData.bool)) (.list (ys.map PyData.bool)) = decide (xs = ys) := eqv_bls xs ys
    rw [e]; exact q⟩
theorem kit_VE : PySem.W.kitMeta "ValueError" = true := by decide +kernel
end S
namespace S
open PySem PySem.Spec PyProof.Rows L2
def t__law_draw_7 (K : Frag) (E : XK) : TS :=
    tRet (tOp oMod (tCB cInt (tCons (dVar 6) (tNil))) (dVar 2))
def t__law_draw_6 (K : Frag) (E : XK) : TS :=
    tSeq (tAsg (tOp oMod (tCB cInt (tCons (tOp oMulA (dVar 6) (dVar 6)) (tNil))) (tC (.int 999983))) (gName 6))
    (stop (t__law_draw_7 K E))
def t__law_draw_5 (K : Frag) (E : XK) : TS :=
    tSeq (tAsg (tOp oMod (tCB cInt (tCons (tOp (oAdd K) (tOp oMulA (dVar 6) (dVar 6)) (dVar 4)) (tNil))) (tC (.int 1000003))) (gName 6))
    (stop (t__law_draw_6 K E))
def t__law_draw_4 (K : Frag) (E : XK) : TS :=
    tSeq (tAsg (tOp oMod (tCB cInt (tCons (tOp (oAdd K) (tOp oMulA (dVar 4) (tOp (oAdd K) (tOp (oAdd K) (tC (.int 48271)) (tOp oMulA (tC (.int 7919)) (tOp (oIx K) (dVar 1) (tC (.int 1))))) (tOp oMulA (tC (.int 104729)) (tOp (oIx K) (dVar 1) (tC (.int 0)))))) (tOp oMulA (tC (.int 611953)) (tOp (oIx K) (dVar 1) (tC (.int 3))))) (tNil))) (tC (.int 2147483647))) (gName 6))
    (stop (t__law_draw_5 K E))
def t__law_draw_3 (K : Frag) (E : XK) : TS :=
    tSeq (dIfS (dCmpT (oEq K) (tOp (oIx K) (dVar 1) (tC (.int 3))) (tC (.int 2))) (tSeq (tAsg (tOp oFdiv (dVar 4) (tC (.int 1000))) (gSub (dVar 1) (tC (.int 2)) oSet))
    (tSeq (dIfS (dCmpT (oEq K) (tOp (oIx K) (dVar 1) (tC (.int 2))) (tC (.int 0))) (tAsg (tC (.int 0)) (gSub (dVar 1) (tC (.int 1)) oSet)) (tNext))
    (tSeq (tAsg (tOp oMod (tCB cInt (tCons (dVar 4) (tNil))) (tC (.int 1000))) (gName 5))
    (tRet (tOp oMod (tCB cInt (tCons (dVar 5) (tNil))) (dVar 2)))))) (tNext))
    (stop (t__law_draw_4 K E))
def t__law_draw_2 (K : Frag) (E : XK) : TS :=
    tSeq (tAsg (tCB cInt (tCons (tOp (oIx K) (dVar 1) (tC (.int 2))) (tNil))) (gName 4))
    (stop (t__law_draw_3 K E))
def t__law_draw_1 (K : Frag) (E : XK) : TS :=
    tSeq (tAsg (tOp oSub (tOp (oIx K) (dVar 1) (tC (.int 1))) (tC (.int 1))) (gSub (dVar 1) (tC (.int 1)) oSet))
    (stop (t__law_draw_2 K E))
def t__law_draw (K : Frag) (E : XK) : TS :=
    tSeq (dIfS (dCmpT (oEq K) (tOp (oIx K) (dVar 1) (tC (.int 1))) (tC (.int 0))) (tSeq (tAsg (tOp (oIx K) (dVar 1) (tC (.int 0))) (gName 3))
    (tSeq (tAsg (tOp (oAdd K) (dVar 3) (tC (.int 1))) (gSub (dVar 1) (tC (.int 0)) oSet))
    (tSeq (dIfS (dCmpT oGe (dVar 3) (tCB (cLen K) (tCons (dVar 0) (tNil)))) (tRet (tC (.int 0))) (tNext))
    (tSeq (tAsg (tCB cAbs (tCons (tOp (oIx K) (dVar 0) (dVar 3)) (tNil))) (gSub (dVar 1) (tC (.int 2)) oSet))
    (tSeq (tAsg (tCB cInt (tCons (tOp oLt (tOp (oIx K) (dVar 0) (dVar 3)) (tC (.int 0))) (tNil))) (gSub (dVar 1) (tC (.int 3)) oSet))
    (tSeq (tAsg (tC (.int 12)) (gSub (dVar 1) (tC (.int 1)) oSet))
    (dIfS (dCmpT oGe (tOp (oIx K) (dVar 1) (tC (.int 2))) (tOp oPow (tC (.int 10)) (tC (.int 18)))) (tSeq (tAsg (tC (.int 60)) (gSub (dVar 1) (tC (.int 1)) oSet))
    (tAsg (tC (.int 2)) (gSub (dVar 1) (tC (.int 3)) oSet))) (tNext)))))))) (tNext))
    (stop (t__law_draw_1 K E))
end S
-- fn: _law_draw
-- law: k03
-- deps: D0
namespace S
open PySem PySem.Spec PyProof.Rows L2
theorem pure__law_draw {K : Frag} (vs : List V) (H : Hp) (Q : VK) (E : XK) (h : sp__law_draw K vs H Q E) : t__law_draw K E { nx := fun _ H' => Q .non H', rt := Q } (start ["_law_script", "_law_state", "_law_base", "_law_here", "_law_number", "_law_digit", "_law_mixed"] vs) H := by
  obtain ⟨a, st, base, rfl, ⟨⟨ns, hscr⟩, l, hl, A, B, N, k, rfl, hA, hN, hd⟩, hb, q⟩ := h

  have hsl : ∀ H1, SameX st H H1 → SqL K H1 a (ns.map V.int) := fun H1 e => (hscr.x e).sl
  have fin : ∀ (x : Int) (l : List V) (H1 : Hp), SameX st H H1 → H1 st = some (.lst l) → DrawSt l → Q (.int (x % base)) H1 := fun x l H1 e h d =>
    q _ _ (Int.emod_nonneg _ (by omega)) (Int.emod_lt_of_pos _ hb) ⟨⟨ns, hscr.x e⟩, l, h, d⟩ e
  have tail : ∀ (A B N k : Int) (w : Option V) (H' : Hp), 0 ≤ A → 0 ≤ N → (k = 2 ∨ N < 10 ^ 18) → SameX st H H' → H' st = some (.lst [.int A, .int B, .int N, .int k]) →
      t__law_draw_1 K E { nx := fun _ H' => Q .non H', rt := Q } [some (.ref a), some (.ref st), some (.int base), w, none, none, none] H' := by
    intro A B N k w H' hA hN hk hs hl
    have h1000 : 0 ≤ N / 1000 := Int.ediv_nonneg hN (by decide)
    walk_at "gx"
    refine ifd (fun hk2 => ?_) (fun hk2 => ?_)
    · walk_at "gx"
      refine ifd (fun hz => ?_) (fun hz => ?_)
      · walk_at "gx"
        exact fin _ _ _ (hs.trans (SameX.upd.trans (SameX.upd.trans SameX.upd))) upd_same ⟨_, _, _, _, rfl, hA, h1000, .inl rfl⟩
      · walk_at "gx"
        exact fin _ _ _ (hs.trans (SameX.upd.trans SameX.upd)) upd_same ⟨_, _, _, _, rfl, hA, h1000, .inr (.inl hk2)⟩
    · have hN2 : N < 10 ^ 18 := by omega
      walk_at "gx"
      exact fin _ _ _ (hs.trans SameX.upd) upd_same ⟨_, _, _, _, rfl, hA, hN, .inr (.inr hN2)⟩
  walk_at "go"
  refine ifd (fun hB => ?_) (fun hB => ?_)
  · walk_at "go"
    rw [List.length_map]
    refine ifd (fun hlen => ?_) (fun hlen => ?_)
    · exact q 0 _ (Int.le_refl 0) hb ⟨⟨ns, hscr.x SameX.upd⟩, _, upd_same, _, _, _, _, rfl, by omega, hN, hd⟩ SameX.upd
    · obtain ⟨x, hx⟩ := at_ints (ns := ns) hA (by omega)
      walk_at "go"
      refine ifd (fun hbig => ?_) (fun hbig => ?_)
      · walk_at "go"
        exact ⟨tail _ _ _ _ _ _ (by omega) (by omega) (.inl rfl) (SameX.upd.trans (SameX.upd.trans (SameX.upd.trans (SameX.upd.trans (SameX.upd.trans SameX.upd))))) upd_same⟩
      · have hb2 : ¬ ((10 : Int) ^ 18 ≤ x.natAbs) := hbig
        exact ⟨tail _ _ _ _ _ _ (by omega) (by omega) (.inr (by omega)) (SameX.upd.trans (SameX.upd.trans (SameX.upd.trans SameX.upd))) upd_same⟩
  · exact ⟨tail A B N k _ H hA hN (by omega) (SameX.refl _ _) hl⟩
end S
namespace S
open PySem PySem.Spec PyProof.Rows L2
def t__law_wide_b1 (K : Frag) (E : XK) : TS :=
    tAsg (tOp (oAdd K) (tOp oMulA (dVar 3) (tC (.int 1000))) (dCall (sp__law_draw K) (EW E) (tCons (dVar 0) (tCons (dVar 1) (tCons (tC (.int 1000)) (tNil)))))) (gName 3)
def t__law_wide_2 (K : Frag) (E : XK) : TS :=
    tRet (tOp oMod (tCB cInt (tCons (dVar 3) (tNil))) (dVar 2))
def t__law_wide_1 (K : Frag) (E : XK) : TS :=
    tSeq (dFor (iRng (tCons (tC (.int 6)) (tNil))) (gName 4) (t__law_wide_b1 K E))
    (stop (t__law_wide_2 K E))
def t__law_wide (K : Frag) (E : XK) : TS :=
    tSeq (tAsg (tC (.int 0)) (gName 3))
    (stop (t__law_wide_1 K E))
end S
-- fn: _law_wide
-- law: k03
-- deps: D0
namespace S
open PySem PySem.Spec PyProof.Rows L2
def sp__law_wide (K : Frag) : Sp := fun vs H Q _ => ∃ (a st : Addr) (lim : Int), vs = [.ref a, .ref st, .int lim] ∧ Ctx K H a st ∧ 0 < lim ∧
  ∀ (r : Int) (H' : Hp), 0 ≤ r → r < lim → Ctx K H' a st → SameX st H H' → Q (.int r) H'
theorem pure__law_wide {K : Frag} (vs : List V) (H : Hp) (Q : VK) (E : XK) (h : sp__law_wide K vs H Q E) : t__law_wide K E { nx := fun _ H' => Q .non H', rt := Q } (start ["_law_script", "_law_state", "_law_limit", "_law_number", "_law_k"] vs) H := by
  obtain ⟨a, st, lim, rfl, hc, hl, q⟩ := h
  walk_at "gx"
  refine for_rng (fun i σ H1 => ∃ (n : Int) (k : Option V), σ = [some (.ref a), some (.ref st), some (.int lim), some (.int n), k] ∧ Ctx K H1 a st ∧ SameX st H H1) ⟨0, none, rfl, hc, SameX.refl _ _⟩ ?_ ?_
  · rintro i σ H1 hi ⟨n, k, rfl, c1, e1⟩
    walk_at "gx"
    refine ⟨a, st, _, rfl, c1, by decide, fun r H2 h0 h1 c2 e2 => ?_⟩
    exact ⟨_, _, rfl, c2, e1.trans e2⟩
  · rintro σ H1 ⟨n, k, rfl, c1, e1⟩
    walk_at "gx"
    exact q _ _ (Int.emod_nonneg _ (by omega)) (Int.emod_lt_of_pos _ hl) c1 e1
end S
namespace S
open PySem PySem.Spec PyProof.Rows L2
def t__law_ends_b1_5 (K : Frag) (E : XK) : TS :=
    tAsg (tOp (oAdd K) (dVar 5) (tC (.int 1))) (gName 5)
def t__law_ends_b1_4 (K : Frag) (E : XK) : TS :=
    tSeq (dIfS (dCmpT oLt (dVar 5) (dVar 2)) (tDrop (dML K mApp (dVar 4) (tCons (dVar 5) (tNil)))) (tNext))
    (stop (t__law_ends_b1_5 K E))
def t__law_ends_b1_3 (K : Frag) (E : XK) : TS :=
    tSeq (dIfS (dCmpT (oEq K) (dVar 7) (tC (.int 3))) (tAsg (tOp (oAdd K) (dVar 5) (dCall (sp__law_wide K) (EW E) (tCons (dVar 0) (tCons (dVar 1) (tCons (tOp (oAdd K) (dVar 2) (tC (.int 1))) (tNil)))))) (gName 5)) (tNext))
    (stop (t__law_ends_b1_4 K E))
def t__law_ends_b1_2 (K : Frag) (E : XK) : TS :=
    tSeq (dIfS (dCmpT (oEq K) (dVar 7) (tC (.int 2))) (tAsg (tOp (oAdd K) (dVar 5) (dCall (sp__law_wide K) (EW E) (tCons (dVar 0) (tCons (dVar 1) (tCons (tOp (oAdd K) (tOp oFdiv (dVar 2) (tC (.int 8))) (tC (.int 1))) (tNil)))))) (gName 5)) (tNext))
    (stop (t__law_ends_b1_3 K E))
def t__law_ends_b1_1 (K : Frag) (E : XK) : TS :=
    tSeq (dIfS (dCmpT (oEq K) (dVar 7) (tC (.int 1))) (tAsg (tOp (oAdd K) (dVar 5) (dCall (sp__law_draw K) (EW E) (tCons (dVar 0) (tCons (dVar 1) (tCons (tC (.int 4)) (tNil)))))) (gName 5)) (tNext))
    (stop (t__law_ends_b1_2 K E))
def t__law_ends_b1 (K : Frag) (E : XK) : TS :=
    tSeq (tAsg (dCall (sp__law_draw K) (EW E) (tCons (dVar 0) (tCons (dVar 1) (tCons (tC (.int 4)) (tNil))))) (gName 7))
    (stop (t__law_ends_b1_1 K E))
def t__law_ends_3 (K : Frag) (E : XK) : TS :=
    tRet (dVar 4)
def t__law_ends_2 (K : Frag) (E : XK) : TS :=
    tSeq (dFor (iRng (tCons (dCall (sp__law_draw K) (EW E) (tCons (dVar 0) (tCons (dVar 1) (tCons (tOp (oAdd K) (dVar 3) (tC (.int 1))) (tNil))))) (tNil))) (gName 6) (t__law_ends_b1 K E))
    (stop (t__law_ends_3 K E))
def t__law_ends_1 (K : Frag) (E : XK) : TS :=
    tSeq (tAsg (tC (.int 0)) (gName 5))
    (stop (t__law_ends_2 K E))
def t__law_ends (K : Frag) (E : XK) : TS :=
    tSeq (tAsg (dLst (tNil)) (gName 4))
    (stop (t__law_ends_1 K E))
end S
-- fn: _law_ends
-- law: k03
-- deps: D0 _law_wide
namespace S
open PySem PySem.Spec PyProof.Rows L2
/-- a new list of at most so many ends within the size -/
def sp__law_ends (K : Frag) : Sp := fun vs H Q _ => ∃ (a st : Addr) (size most : Int), vs = [.ref a, .ref st, .int size, .int most] ∧ Ctx K H a st ∧ 0 ≤ size ∧ size ≤ 10 ^ 18 ∧ 0 ≤ most ∧ most ≤ 1000 ∧
  ∀ (p : Addr) (ns : List Int) (H' : Hp), H p = none → H' p = some (.lst (ns.map V.int)) → Ends size ns → (ns.length : Int) ≤ most → Ctx K H' a st → SameX st H H' → Q (.ref p) H'
def inv__law_ends (K : Frag) (H : Hp) (a st p : Addr) (size most : Int) (i : Nat) (σ : L2.St) (H2 : Hp) : Prop := ∃ (at_ : Int) (ns : List Int) (k kd : Option V),
  σ = [some (.ref a), some (.ref st), some (.int size), some (.int most), some (.ref p), some (.int at_), k, kd] ∧
  H2 p = some (.lst (ns.map V.int)) ∧ Ends size ns ∧ (∀ x ∈ ns, x < at_) ∧ 0 ≤ at_ ∧ ns.length ≤ i ∧ Ctx K H2 a st ∧ SameX st H H2
theorem pure__law_ends {K : Frag} (vs : List V) (H : Hp) (Q : VK) (E : XK) (h : sp__law_ends K vs H Q E) : t__law_ends K E { nx := fun _ H' => Q .non H', rt := Q } (start ["_law_script", "_law_state", "_law_size_here", "_law_most", "_law_ends_here", "_law_at", "_law_k", "_law_kind"] vs) H := by
  obtain ⟨a, st, size, most, rfl, hc, hs0, hs1, hm0, hm1, q⟩ := h
  walk_at "gx"
  refine ⟨fun p hp => ?_⟩
  have cp : Ctx K (upd H p (.lst [])) a st := hc.mut hc hp
  walk_at "gx"
  refine ⟨a, st, _, rfl, cp, show 0 < most + 1 by omega, fun cnt H1 h0 h1 c1 e1 => ?_⟩
  have h1' : cnt < most + 1 := h1
  have npst : p ≠ st := by
    obtain ⟨_, l, hl, _⟩ := hc
    exact (ne_of_none hl hp).symm
  have hp1 : H1 p = some (.lst []) := e1 _ _ upd_same npst
  have e0 : SameX st H H1 := fun b o hb n => e1 b o (by rw [upd_ne (ne_of_none hb hp)]; exact hb) n
  walk_at "gx"
  refine for_rng (inv__law_ends K H a st p size most) ⟨0, [], none, none, rfl, hp1, ⟨.nil, fun _ z => nomatch z⟩, fun _ z => (nomatch z), Int.le_refl _, Nat.le_refl _, c1, e0⟩ ?_ ?_
  · rintro i σ H2 hi ⟨at_, ns, k, kd, rfl, hl, hE, hb, h0, hlen, c2, e2⟩
    walk_at "gx"
    refine ⟨a, st, _, rfl, c2, by decide, fun kind H3 k0 k1 c3 e3 => ?_⟩
    have hl3 : H3 p = some (.lst (ns.map V.int)) := e3 _ _ hl npst
    -- behind the three ifs: at_ has grown
    have tail : ∀ (D : L2.Ends) (at2 : Int) (H4 : Hp), (∀ σ H', inv__law_ends K H a st p size most (i + 1) σ H' → D.nx σ H') → at_ ≤ at2 → H4 p = some (.lst (ns.map V.int)) → Ctx K H4 a st → SameX st H H4 →
        t__law_ends_b1_4 K E D [some (.ref a), some (.ref st), some (.int size), some (.int most), some (.ref p), some (.int at2), some (.int i), some (.int kind)] H4 := by
      intro D at2 H4 hD hge hl4 c4 e4
      walk_at "gx"
      refine ifd (fun hlt => ?_) (fun hlt => ?_)
      · walk_at "gx"
        refine hD _ _ ⟨at2 + 1, ns ++ [at2], _, _, rfl, by rw [List.map_append]; exact upd_same, hE.snoc (fun x hx => Int.lt_of_lt_of_le (hb x hx) hge) (by omega) hlt, fun x hx => ?_, by omega, by rw [List.length_append]; show ns.length + 1 ≤ i + 1; omega, c4.mut hc hp, e4.mut hp⟩
        rcases List.mem_append.mp hx with hx | hx
        · have := hb x hx; omega
        · rw [List.mem_singleton.mp hx]; omega
      · walk_at "gx"
        exact hD _ _ ⟨at2 + 1, ns, _, _, rfl, hl4, hE, fun x hx => by have := hb x hx; omega, by omega, by omega, c4, e4⟩
    walk_at "gx"
    refine ifd (fun hk => ?_) (fun hk => ?_)
    · walk_at "gx"
      refine ⟨a, st, _, rfl, c3, by decide, fun d H4 d0 d1 c4 e4 => ?_⟩
      walk_at "gx"
      refine iff' (by omega) ?_
      walk_at "gx"
      refine iff' (by omega) ?_
      exact ⟨tail _ (at_ + d) H4 (fun _ _ z => z) (by omega) (e4 _ _ hl3 npst) c4 ((e2.trans e3).trans e4)⟩
    walk_at "gx"
    refine ifd (fun hk => ?_) (fun hk => ?_)
    · walk_at "gx"
      refine ⟨a, st, _, rfl, c3, show 0 < size / 8 + 1 by omega, fun d H4 d0 d1 c4 e4 => ?_⟩
      walk_at "gx"
      refine iff' (by omega) ?_
      exact ⟨tail _ (at_ + d) H4 (fun _ _ z => z) (by omega) (e4 _ _ hl3 npst) c4 ((e2.trans e3).trans e4)⟩
    walk_at "gx"
    refine ifd (fun hk => ?_) (fun hk => ?_)
    · walk_at "gx"
      refine ⟨a, st, _, rfl, c3, show 0 < size + 1 by omega, fun d H4 d0 d1 c4 e4 => ?_⟩
      exact ⟨tail _ (at_ + d) H4 (fun _ _ z => z) (by omega) (e4 _ _ hl3 npst) c4 ((e2.trans e3).trans e4)⟩
    · exact ⟨tail _ at_ H3 (fun _ _ z => z) (Int.le_refl _) hl3 c3 (e2.trans e3)⟩
  · rintro σ H2 ⟨at_, ns, k, kd, rfl, hl, hE, hb, h0, hlen, c2, e2⟩
    walk_at "gx"
    exact q p ns H2 hp hl hE (by omega) c2 e2
end S
namespace S
open PySem PySem.Spec PyProof.Rows L2
def t__law_places_b1 (K : Frag) (E : XK) : TS :=
    dIfS (dAnd (dCmpT (oEq K) (dCall (sp__law_draw K) (EW E) (tCons (dVar 0) (tCons (dVar 1) (tCons (tC (.int 4)) (tNil))))) (tC (.int 1))) (dCmpT oGt (dVar 6) (tC (.int 0)))) (tDrop (dML K mApp (dVar 5) (tCons (tCB (cList K) (tCons (tOp (oIx K) (dVar 5) (tOp oSub (dVar 6) (tC (.int 1)))) (tNil))) (tNil)))) (tDrop (dML K mApp (dVar 5) (tCons (dCall (sp__law_ends K) (EW E) (tCons (dVar 0) (tCons (dVar 1) (tCons (dVar 2) (tCons (dVar 3) (tNil)))))) (tNil))))
def t__law_places_2 (K : Frag) (E : XK) : TS :=
    tRet (dVar 5)
def t__law_places_1 (K : Frag) (E : XK) : TS :=
    tSeq (dFor (iRng (tCons (tOp (oAdd K) (tC (.int 1)) (dCall (sp__law_draw K) (EW E) (tCons (dVar 0) (tCons (dVar 1) (tCons (dVar 4) (tNil)))))) (tNil))) (gName 6) (t__law_places_b1 K E))
    (stop (t__law_places_2 K E))
def t__law_places (K : Frag) (E : XK) : TS :=
    tSeq (tAsg (dLst (tNil)) (gName 5))
    (stop (t__law_places_1 K E))
end S
-- fn: _law_places
-- law: k12
-- deps: Sl _law_draw _law_ends
namespace S
open PySem PySem.Spec PyProof.Rows L2
/-- new lists of ends -/
def sp__law_places (K : Frag) : Sp := fun vs H Q _ => ∃ (a st : Addr) (n most cnt : Int), vs = [.ref a, .ref st, .int n, .int most, .int cnt] ∧ Ctx K H a st ∧ 0 ≤ n ∧ n ≤ 10 ^ 18 ∧ 0 ≤ most ∧ most ≤ 1000 ∧ 0 < cnt ∧ cnt ≤ 100 ∧
  ∀ (p : Addr) (M : List Sli) (H' : Hp), H p = none → H' p = some (.lst (M.map vB)) → Lss H' n most.toNat M → (∀ t ∈ M, H t.1 = none ∧ t.1 ≠ p) → M ≠ [] → (M.length : Int) ≤ cnt → Ctx K H' a st → SameX st H H' → Q (.ref p) H'
theorem SameX.none {st : Addr} {H H' : Hp} {p : Addr} (e : SameX st H H') (h : H' p = none) (n : p ≠ st) : H p = none := by
  cases x : H p with
  | none => rfl
  | some o => rw [e _ _ x n] at h; cases h
theorem same_none {H H' : Hp} {p : Addr} (e : Same H H') (h : H' p = none) : H p = none := by
  cases x : H p with
  | none => rfl
  | some o => rw [e _ _ x] at h; cases h
def t__law_places_b1e (K : Frag) (E : XK) : TS :=
    tDrop (dML K mApp (dVar 5) (tCons (dCall (sp__law_ends K) (EW E) (tCons (dVar 0) (tCons (dVar 1) (tCons (dVar 2) (tCons (dVar 3) (tNil)))))) (tNil)))
def inv__law_places (K : Frag) (H : Hp) (a st p : Addr) (n most cnt : Int) (i : Nat) (σ : L2.St) (H2 : Hp) : Prop := ∃ (M : List Sli) (k : Option V), M.length = i ∧ σ = [some (.ref a), some (.ref st), some (.int n), some (.int most), some (.int cnt), some (.ref p), k] ∧ H2 p = some (.lst (M.map vB)) ∧ Lss H2 n most.toNat M ∧ (∀ t ∈ M, H t.1 = none ∧ t.1 ≠ p ∧ t.1 ≠ st) ∧ Ctx K H2 a st ∧ SameX st H H2
theorem pure__law_places {K : Frag} (vs : List V) (H : Hp) (Q : VK) (E : XK) (h : sp__law_places K vs H Q E) : t__law_places K E { nx := fun _ H' => Q .non H', rt := Q } (start ["_law_script", "_law_state", "_law_size_here", "_law_most", "_law_count", "_law_lists", "_law_k"] vs) H := by
  obtain ⟨a, st, n, most, cnt, rfl, hc, n0, n1, m0, m1, c0, c1, q⟩ := h
  walk_at "gx"
  refine ⟨fun p hp => ?_⟩
  have e0 : Same H (upd H p (.lst [])) := same_new hp
  have pst : p ≠ st := ctx_ne hc hp
  walk_at "gx"
  refine ⟨a, st, _, rfl, hc.same e0, c0, fun r H1 r0 r1 cx1 e1 => ?_⟩
  have r1' : r < cnt := r1
  have hp1 := e1 _ _ (upd_same : upd H p (.lst []) p = _) pst
  walk_at "gx"
  refine for_rng (inv__law_places K H a st p n most cnt) ⟨[], none, rfl, rfl, hp1, fun _ z => (nomatch z), fun _ z => (nomatch z), cx1, Same.thenX e0 e1⟩ ?_ ?_
  · rintro i σ H2 hi ⟨M, k, hM, rfl, hp2, hL, hf, cx2, e2⟩
    have go : ∀ (x : Addr) (H3 : Hp) (es : List Int), H2 x = none → SameX st H2 H3 → Ctx K H3 a st → H3 x = some (.lst (es.map V.int)) → Ends n es → es.length ≤ most.toNat → ∀ k : Option V,
        inv__law_places K H a st p n most cnt (i + 1) [some (V.ref a), some (.ref st), some (.int n), some (.int most), some (.int cnt), some (.ref p), k] (L2.upd H3 p (.lst (M.map vB ++ [V.ref x]))) := by
      intro x H3 es nx e3 cx3 hx hE hl k
      have xst : x ≠ st := ctx_ne cx2 nx
      have xp : x ≠ p := (ne_of_none hp2 nx).symm
      have hu : SameX p H3 (L2.upd H3 p (.lst (M.map vB ++ [V.ref x]))) := SameX.upd
      refine ⟨M ++ [(x, es)], k, by simp [hM], rfl, by rw [upd_same, List.map_append]; rfl, fun t ht => ?_, fun t ht => ?_, cx3.mut hc hp, fun b o hb hn => hu _ _ (e3 _ _ (e2 _ _ hb hn) hn) (ne_of_none hb hp)⟩
      · rcases List.mem_append.mp ht with ht | ht
        · obtain ⟨a1, a2, a3⟩ := hL t ht
          obtain ⟨_, b1, b2⟩ := hf t ht
          exact ⟨hu _ _ (e3 _ _ a1 b2) b1, a2, a3⟩
        · rw [List.mem_singleton.mp ht]
          exact ⟨hu _ _ hx xp, hE, hl⟩
      · rcases List.mem_append.mp ht with ht | ht
        · exact hf t ht
        · rw [List.mem_singleton.mp ht]
          exact ⟨e2.none nx xst, xp, xst⟩
    have ends : ∀ (H3 : Hp) (k : Option V) (D : L2.Ends), SameX st H2 H3 → Ctx K H3 a st → (∀ σ' H', inv__law_places K H a st p n most cnt (i + 1) σ' H' → D.nx σ' H') →
        t__law_places_b1e K E D [some (V.ref a), some (.ref st), some (.int n), some (.int most), some (.int cnt), some (.ref p), k] H3 := by
      intro H3 k D e3 cx3 kk
      have hp3 := e3 _ _ hp2 pst
      unfold t__law_places_b1e
      walk_at "gx"
      refine ⟨a, st, n, most, rfl, cx3, n0, n1, m0, m1, fun x es H4 nx hx hE hl cx4 e4 => ?_⟩
      have hp4 := e4 _ _ hp3 pst
      walk_at "gx"
      exact kk _ _ (go x H4 es (e3.none nx (ctx_ne cx3 nx)) (e3.trans e4) cx4 hx hE (by omega) k)
    walk_at "gx"
    refine ⟨a, st, _, rfl, cx2, by decide, fun kd H3 _ _ cx3 e3 => ?_⟩
    have hp3 := e3 _ _ hp2 pst
    walk_at "gx"
    refine ifd (fun h1 => ?_) (fun h1 => ?_)
    · walk_at "gx"
      refine ifd (fun h2 => ?_) (fun h2 => ?_)
      · have hj : (i - 1) < M.length := by omega
        have hg : M[i - 1]? = some M[i - 1] := List.getElem?_eq_getElem hj
        have hm := List.getElem_mem hj
        generalize M[i - 1] = t at *
        obtain ⟨a1, a2, a3⟩ := hL t hm
        have b1 := e3 _ _ a1 (hf t hm).2.2
        have ha : atI (M.map vB) ((i : Int) - 1) = some (.ref t.1) := by
          rw [show (i : Int) - 1 = ((i - 1 : Nat) : Int) by omega]
          exact atI_nat (by rw [List.getElem?_map, hg]; rfl)
        walk_at "gx"
        refine ⟨fun x nx => ?_⟩
        have e4 := same_new (o := .lst (t.2.map V.int)) nx
        have hp4 := e4 _ _ hp3
        walk_at "gx"
        exact go x _ t.2 (e3.none nx (ctx_ne cx3 nx)) (e3.then e4) (cx3.same e4) upd_same a2 a3 _
      · exact ends H3 _ _ e3 cx3 fun σ' H' z => z
    · exact ends H3 _ _ e3 cx3 fun σ' H' z => z
  · rintro σ H2 ⟨M, k, hM, rfl, hp2, hL, hf, cx2, e2⟩
    refine ⟨q p M H2 hp hp2 hL (fun t ht => ⟨(hf t ht).1, (hf t ht).2.1⟩) (fun z => ?_) (by omega) cx2 e2⟩
    rw [z] at hM
    have hM : (0 : Nat) = (1 + r).toNat := hM
    omega
end S
namespace S
open PySem PySem.Spec PyProof.Rows L2
def t_Bitmap_span_3 (K : Frag) (E : XK) : TS :=
    tRet (dGiv (CF K "Bitmap" ["ends", "size"]) (dMake K "Bitmap" (sp_Bitmapdd_initdd K) (EW E) (tCons (dVar 0) (tCons (dTup K (tCons (dVar 1) (tCons (dVar 2) (tNil)))) (tNil)))))
def t_Bitmap_span_2 (K : Frag) (E : XK) : TS :=
    tSeq (dIfS (dCmpT (oEq K) (dVar 2) (dVar 0)) (tRet (dGiv (CF K "Bitmap" ["ends", "size"]) (dMake K "Bitmap" (sp_Bitmapdd_initdd K) (EW E) (tCons (dVar 0) (tCons (dTup K (tCons (dVar 1) (tNil))) (tNil)))))) (tNext))
    (stop (t_Bitmap_span_3 K E))
def t_Bitmap_span_1 (K : Frag) (E : XK) : TS :=
    tSeq (dIfS (dCmpT (oEq K) (dVar 1) (dVar 2)) (tRet (dGiv (CF K "Bitmap" ["ends", "size"]) (dGiv (EmpT K (V.ref (He.dflAt ("Bitmap", some "__init__") 0 K))) (dMake K "Bitmap" (spD (sp_Bitmapdd_initdd K) [V.ref (He.dflAt ("Bitmap", some "__init__") 0 K)]) (EW E) (tCons (dVar 0) (tNil)))))) (tNext))
    (stop (t_Bitmap_span_2 K E))
def t_Bitmap_span (K : Frag) (E : XK) : TS :=
    tSeq (dIfS (dNot (dChain3T oLe oLe oLe (tC (.int 0)) (dVar 1) (dVar 2) (dVar 0))) (dGivS (ExF K "BadBitmap" ["SliceError"]) (dRaise K "BadBitmap" (WD E))) (tNext))
    (stop (t_Bitmap_span_1 K E))
end S
-- fn: Bitmap.span
-- law: k08
-- deps: Bitmap_init Bs _law_places
namespace S
open PySem PySem.Spec PyProof.Rows L2
def spanE (n a b : Int) : List Int := if a = b then [] else if b = n then [a] else [a, b]
theorem spanE_ends {n a b : Int} (h0 : 0 ≤ a) (h1 : a ≤ b) (h2 : b ≤ n) : Ends n (spanE n a b) := by
  unfold spanE
  split
  · exact ⟨.nil, fun _ z => nomatch z⟩
  · split
    · exact ⟨List.pairwise_singleton _ _, fun x hx => by rw [List.mem_singleton.mp hx]; omega⟩
    · refine ⟨.cons (fun x hx => by rw [List.mem_singleton.mp hx]; omega) (List.pairwise_singleton _ _), fun x hx => ?_⟩
      simp only [List.mem_cons, List.not_mem_nil, or_false] at hx
      rcases hx with rfl | rfl <;> omega
theorem spanE_in {n a b row : Int} (h1 : a ≤ b) (h2 : b ≤ n) (r1 : row < n) : inB (spanE n a b) row = decide (a ≤ row ∧ row < b) := by
  unfold spanE
  split
  · exact (decide_eq_false (by omega)).symm
  · split
    · show (if a ≤ row then !false else false) = _
      by_cases h : a ≤ row
      · rw [if_pos h, decide_eq_true ⟨h, by omega⟩]; rfl
      · rw [if_neg h, decide_eq_false (by omega)]
    · show (if b ≤ row then !(if a ≤ row then !false else false) else (if a ≤ row then !false else false)) = _
      by_cases h : a ≤ row
      · rw [if_pos h]
        by_cases h2 : b ≤ row
        · rw [if_pos h2, decide_eq_false (by omega)]; rfl
        · rw [if_neg h2, decide_eq_true ⟨h, by omega⟩]; rfl
      · rw [if_neg h, if_neg (by omega), decide_eq_false (by omega)]
def sp_Bitmap_span (K : Frag) : Sp := fun vs H Q E => ∃ (n a b : Int), vs = [.int n, .int a, .int b] ∧ (0 ≤ a ∧ a ≤ b ∧ b ≤ n → ∀ z H', Same H H' → H z = none → Bm K H' z n (spanE n a b) → Q (.ref z) H') ∧ (¬ (0 ≤ a ∧ a ≤ b ∧ b ≤ n) → XF K "BadBitmap" → E (.ref (He.ga K "BadBitmap")) none H)
theorem pure_Bitmap_span {K : Frag} (vs : List V) (H : Hp) (Q : VK) (E : XK) (h : sp_Bitmap_span K vs H Q E) : t_Bitmap_span K E { nx := fun _ H' => Q .non H', rt := Q } (start ["size", "start", "stop"] vs) H := by
  obtain ⟨n, a, b, rfl, good, bad⟩ := h
  by_cases h : 0 ≤ a ∧ a ≤ b ∧ b ≤ n
  · have n0 : 0 ≤ n := by omega
    have hE := spanE_ends h.1 h.2.1 h.2.2
    refine ift h.1 ?_
    refine ift h.2.1 ?_
    refine ifnf h.2.2 ?_
    walk_at "gx"
    refine ifd (fun hab => ?_) (fun hab => ?_)
    · have hab : a = b := hab
      have e0 : spanE n a b = [] := by unfold spanE; rw [if_pos hab]
      refine fun cf => ?_
      rintro ⟨d, hd, hdE⟩
      have key := mk_bitmap (K := K) (H := H) (n := n) (es := []) (p := d) (R := fun z H' => Q (.ref z) H') (E := E) cf (.inr (hdE H)) (fun _ _ z H' e nz hz => good h z H' e nz (by rw [e0]; exact hz)) (fun hb => absurd ⟨n0, .nil, fun _ z => nomatch z⟩ hb)
      rw [hd]
      exact key
    · have hab : ¬ a = b := hab
      walk_at "gx"
      refine ifd (fun hbn => ?_) (fun hbn => ?_)
      · have hbn : b = n := hbn
        have e0 : spanE n a b = [a] := by unfold spanE; rw [if_neg hab, if_pos hbn]
        rw [e0] at hE
        refine fun cf => ?_
        walk_at "gx"
        refine ⟨fun t H1 e1 ht => ?_⟩
        exact mk_bitmap (es := [a]) cf (.inr ht) (fun _ _ z H' e nz hz => good h z H' (e1.trans e) (same_none e1 nz) (by rw [e0]; exact hz)) (fun nb => absurd ⟨n0, hE⟩ nb)
      · have hbn : ¬ b = n := hbn
        have e0 : spanE n a b = [a, b] := by unfold spanE; rw [if_neg hab, if_neg hbn]
        rw [e0] at hE
        refine ⟨fun cf => ?_⟩
        walk_at "gx"
        refine ⟨fun t H1 e1 ht => ?_⟩
        exact mk_bitmap (es := [a, b]) cf (.inr ht) (fun _ _ z H' e nz hz => good h z H' (e1.trans e) (same_none e1 nz) (by rw [e0]; exact hz)) (fun nb => absurd ⟨n0, hE⟩ nb)
  · have out : bIf (decide (0 ≤ a)) (bIf (decide (a ≤ b)) (bIf (!decide (b ≤ n)) (XF K "BadBitmap" → E (.ref (He.ga K "BadBitmap")) none H) (stop (t_Bitmap_span_1 K E) { nx := fun _ H' => Q .non H', rt := Q } [some (.int n), some (.int a), some (.int b)] H)) (XF K "BadBitmap" → E (.ref (He.ga K "BadBitmap")) none H)) (XF K "BadBitmap" → E (.ref (He.ga K "BadBitmap")) none H) := by
      refine ifd (fun h1 => ifd (fun h2 => ?_) fun _ => bad h) fun _ => bad h
      refine ifnt (fun h3 => h ⟨h1, h2, h3⟩) (bad h)
    exact out
end S
-- deps: Bitmap_span Bx Bitmap_nth
/-! ## ranks of rows; the ends of spans -/
namespace S
open PySem PySem.Spec PyProof.Rows L2
theorem cnt_mono {f : Int → Bool} {a b : Nat} (hab : a ≤ b) : cntF f a ≤ cntF f b := by
  induction b with
  | zero => rw [Nat.le_zero.mp hab]; exact Int.le_refl _
  | succ b ih =>
    by_cases h : a = b + 1
    · rw [h]; exact Int.le_refl _
    · have := ih (by omega)
      show _ ≤ cntF f b + (if f b then 1 else 0)
      split <;> omega
theorem cnt_lt {f : Int → Bool} {a b : Nat} (hab : a < b) (ha : f a = true) : cntF f a < cntF f b := by
  have h1 := cnt_mono (f := f) (a := a + 1) (b := b) hab
  have h2 : cntF f (a + 1) = cntF f a + 1 := by
    show cntF f a + (if f a then 1 else 0) = _
    rw [if_pos ha]
  omega
theorem rank_lt {n : Int} {es : List Int} (h : Ends n es) {r s : Int} (r0 : 0 ≤ r) (rs : r < s) (hr : inB es r = true) : rankF r es 1 < rankF s es 1 := by
  obtain ⟨a, rfl⟩ := Int.eq_ofNat_of_zero_le r0
  obtain ⟨b, rfl⟩ := Int.eq_ofNat_of_zero_le (show 0 ≤ s by omega)
  rw [rank_cnt h a, rank_cnt h b]
  exact cnt_lt (by omega) hr
theorem rank_le {n : Int} {es : List Int} (h : Ends n es) {r s : Int} (r0 : 0 ≤ r) (rs : r ≤ s) : rankF r es 1 ≤ rankF s es 1 := by
  obtain ⟨a, rfl⟩ := Int.eq_ofNat_of_zero_le r0
  obtain ⟨b, rfl⟩ := Int.eq_ofNat_of_zero_le (show 0 ≤ s by omega)
  rw [rank_cnt h a, rank_cnt h b]
  exact cnt_mono (by omega)
theorem spanE_len {n a b : Int} : (spanE n a b).length ≤ 2 := by
  unfold spanE
  split
  · simp
  · split <;> simp
theorem spanE_memS {n a b z : Int} (h : z ∈ spanE n a b) : z = a ∨ (z = b ∧ b ≠ n) := by
  unfold spanE at h
  split at h
  · exact nomatch h
  · split at h
    · exact .inl (List.mem_singleton.mp h)
    · rename_i hb
      simp only [List.mem_cons, List.not_mem_nil, or_false] at h
      rcases h with h | h
      · exact .inl h
      · exact .inr ⟨h, hb⟩
end S
namespace S
open PySem PySem.Spec PyProof.Rows L2
def t_Bitmap_first_2 (K : Frag) (E : XK) : TS :=
    tRet (tOp (oOwn K "Bitmap" (sp_Bitmapdd_anddd K) E oAnd) (dVar 0) (dStat K (sp_Bitmap_span K) (EW E) (tCons (dAt K "size" (dVar 0)) (tCons (tC (.int 0)) (tCons (dMeth K "Bitmap" (sp_Bitmap_nth K) (EW E) (dVar 0) (tCons (dVar 1) (tNil))) (tNil))))))
def t_Bitmap_first_1 (K : Frag) (E : XK) : TS :=
    tSeq (dIfS (dCmpT oGe (dVar 1) (dProp K "Bitmap" (sp_Bitmap_ones K) (dVar 0))) (tRet (dVar 0)) (tNext))
    (stop (t_Bitmap_first_2 K E))
def t_Bitmap_first (K : Frag) (E : XK) : TS :=
    tSeq (dIfS (dCmpT oLt (dVar 1) (tC (.int 0))) (dGivS (ExF K "NoSuchRank" ["SliceError"]) (dRsI K "NoSuchRank" "number" (WD E) 1)) (tNext))
    (stop (t_Bitmap_first_1 K E))
end S
-- fn: Bitmap.first
-- law: k07
-- own: BitAnd=Bitmap
-- deps: Bitmap_nth Bitmap_span Bs Spm
namespace S
open PySem PySem.Spec PyProof.Rows L2
def sp_Bitmap_first (K : Frag) : Sp := fun vs H Q E => ∃ (a : Addr) (n k : Int) (es : List Int), vs = [.ref a, .int k] ∧ Bm K H a n es ∧ n ≤ 2 * 10 ^ 18 ∧ es.length ≤ 40000 ∧
  (0 ≤ k → ∀ z es' H', Same H H' → Bm K H' z n es' → es'.length ≤ es.length + 2 → (∀ row, 0 ≤ row → row < n → inB es' row = (inB es row && decide (rankF row es 1 < k))) → (∀ x ∈ es', x ∈ es ∨ x = 0 ∨ (0 ≤ x ∧ x < n ∧ inB es x = true ∧ rankF x es 1 = k)) → Q (.ref z) H') ∧
  (¬ 0 ≤ k → XF K "NoSuchRank" → ∀ d, H d = none → E (.ref (He.ga K "NoSuchRank")) (some d) (upd H d (.xd [("number", .int k)])))
theorem pure_Bitmap_first {K : Frag} (vs : List V) (H : Hp) (Q : VK) (E : XK) (h : sp_Bitmap_first K vs H Q E) : t_Bitmap_first K E { nx := fun _ H' => Q .non H', rt := Q } (start ["self", "k"] vs) H := by
  obtain ⟨a, n, k, es, rfl, hb, n1, hl, good, bad⟩ := h
  obtain ⟨cf, n0, hE, dx, p, hs, hp⟩ := id hb
  walk_at "gx"
  refine ifd (fun k0 => ?_) (fun k0 => ?_)
  · exact fun xf => ⟨fun d nd => bad (by omega) xf d nd⟩
  have k0 : 0 ≤ k := by omega
  walk_at "gx"
  refine .of hs ⟨a, n, es, rfl, hb, n1, by omega, fun H1 e1 => ?_⟩
  refine ifd (fun k1 => ?_) (fun k1 => ?_)
  · have k1 : rankF n es 1 ≤ k := k1
    refine good k0 a es H1 e1 (hb.same e1) (by omega) (fun row r0 r1 => ?_) fun x hx => .inl hx
    cases hi : inB es row with
    | false => rfl
    | true =>
      rw [decide_eq_true (Int.lt_of_lt_of_le (rank_lt hE r0 r1 hi) k1)]
      rfl
  · have k1 : k < rankF n es 1 := by
      have k1 : ¬ rankF n es 1 ≤ k := k1
      omega
    have hb1 := hb.same e1
    have hs1 := Same.slt e1 hs
    walk_at "gx"
    refine Atr.sl cf hs1 (i := 1) rfl rfl ?_
    refine .of hs1 ⟨a, n, k, es, rfl, hb1, n1, by omega, fun _ _ r H2 e2 r0 r1 hr hk => ?_, fun nb => absurd ⟨k0, k1⟩ nb⟩
    refine ⟨n, 0, r, rfl, fun _ z H3 e3 _ hz => ?_, fun nb => absurd ⟨Int.le_refl _, r0, by omega⟩ nb⟩
    have hb3 := (hb1.same e2).same e3
    have l2 := spanE_len (n := n) (a := 0) (b := r)
    obtain ⟨_, _, _, dx3, u3, sl3, _⟩ := id hb3
    obtain ⟨_, _, hEz, dxz, uz, slz, _⟩ := id hz
    refine .of sl3 (.of slz ⟨a, z, rfl, n, n, es, spanE n 0 r, hb3, hz, by omega, by omega, fun _ w H4 e4 _ hw => ?_, fun hn => absurd rfl hn⟩)
    refine good k0 w _ H4 (((e1.trans e2).trans e3).trans e4) hw (by have := join_len (r := rAnd) (es := es) (fs := spanE n 0 r); omega) (fun row q0 q1 => ?_) fun x hx => ?_
    · rw [join_in hE hEz rfl, spanE_in r0 (by omega) q1]
      show (inB es row && _) = _
      cases hi : inB es row with
      | false => rfl
      | true =>
        show decide _ = decide _
        rw [decide_eq_decide]
        constructor
        · intro z
          have := rank_lt hE q0 z.2 hi
          omega
        · intro z
          refine ⟨q0, ?_⟩
          by_cases h : row < r
          · exact h
          · have := rank_le hE r0 (show r ≤ row by omega)
            omega
    · rcases sweep_mem hE hEz hx with h | h
      · exact .inl h
      · rcases spanE_memS h with h | ⟨h, _⟩
        · exact .inr (.inl h)
        · subst h
          exact .inr (.inr ⟨r0, r1, hr, hk⟩)
end S
namespace S
open PySem PySem.Spec PyProof.Rows L2
def t__law_first_refused_2 (K : Frag) (E : XK) : TS :=
    tRet (tOp (oEq K) (dVar 2) (dLst (tCons (dVar 1) (tCons (tC (.bl true)) (tCons (tC (.bl false)) (tNil))))))
def t__law_first_refused_1 (K : Frag) (E : XK) : TS :=
    tSeq (dGivS (ExF K "NoSuchRank" ["SliceError"]) (dTry K "NoSuchRank" 3 (fun W1 => tDrop (dMeth K "Bitmap" (sp_Bitmap_first K) (WE W1) (dVar 0) (tCons (dVar 1) (tNil)))) (fun a1 cls1 d1 => tAsg (dLst (tCons (dXf K a1 cls1 d1 "NoSuchRank" "number" (dVar 3)) (tCons (dGiv (MF K "SliceError" [] veTys) (tCB (cIsE K a1 cls1 d1) (tCons (dVar 3) (tCons (tC (.ref (He.ga K "SliceError"))) (tNil))))) (tCons (dGiv (MF K "BadBitmap" ["SliceError"] veTys) (tCB (cIsE K a1 cls1 d1) (tCons (dVar 3) (tCons (tC (.ref (He.ga K "BadBitmap"))) (tNil))))) (tNil))))) (gName 2)) (WD E)))
    (stop (t__law_first_refused_2 K E))
def t__law_first_refused (K : Frag) (E : XK) : TS :=
    tSeq (tAsg (dLst (tNil)) (gName 2))
    (stop (t__law_first_refused_1 K E))
end S
namespace S
open PySem PySem.Spec PyProof.Rows L2
def t__law_cut_refused_2 (K : Frag) (E : XK) : TS :=
    tRet (tOp (oEq K) (dVar 3) (dLst (tCons (tC (.bl true)) (tCons (tC (.bl false)) (tNil)))))
def t__law_cut_refused_1 (K : Frag) (E : XK) : TS :=
    tSeq (dGivS (ExF K "BadBitmap" ["SliceError"]) (dTry K "BadBitmap" 4 (fun W1 => tDrop (dMeth K "Bitmap" (sp_Bitmap_cut K) (WE W1) (dVar 0) (tCons (dVar 1) (tCons (dVar 2) (tNil))))) (fun a1 cls1 d1 => tAsg (dLst (tCons (dGiv (MF K "SliceError" [] veTys) (tCB (cIsE K a1 cls1 d1) (tCons (dVar 4) (tCons (tC (.ref (He.ga K "SliceError"))) (tNil))))) (tCons (dGiv (MF K "NoSuchRank" ["SliceError"] veTys) (tCB (cIsE K a1 cls1 d1) (tCons (dVar 4) (tCons (tC (.ref (He.ga K "NoSuchRank"))) (tNil))))) (tNil)))) (gName 3)) (WD E)))
    (stop (t__law_cut_refused_2 K E))
def t__law_cut_refused (K : Frag) (E : XK) : TS :=
    tSeq (tAsg (dLst (tNil)) (gName 3))
    (stop (t__law_cut_refused_1 K E))
end S
-- fn: _law_first_refused _law_cut_refused
-- law: k07
-- deps: eqd_bb D1 Bitmap_first Bitmap_cut
namespace S
open PySem PySem.Spec PyProof.Rows L2
theorem eqd_told2 {K : Frag} {H : Hp} {a b : Addr} {r : Int} {b1 b2 : Bool} {k : Bool → Prop} (h : SqL K H a [.int r, .bl b1, .bl b2]) (h2 : SqL K H b [.int r, .bl b1, .bl b2]) (q : k true) : EqD K H (.ref a) (.ref b) k :=
  ⟨_, _, .lst h (.cons (.int r) (.cons (.bl b1) (.cons (.bl b2) .nil))), .lst h2 (.cons (.int r) (.cons (.bl b1) (.cons (.bl b2) .nil))), rfl, rfl, by
    have e : PyData.eqv (.list [.int r, .bool b1, .bool b2]) (.list [.int r, .bool b1, .bool b2]) = true := by
      show ((r == r) && ((PyData.eqv (.bool b1) (.bool b1)) && ((PyData.eqv (.bool b2) (.bool b2)) && true))) = true
      have e1 : ∀ b : Bool, PyData.eqv (.bool b) (.bool b) = true := fun b => by cases b <;> rfl
      rw [e1, e1]
      simp
    rw [e]; exact q⟩
def sp__law_first_refused (K : Frag) : Sp := fun vs H Q _ => ∃ (m : Addr) (n k : Int) (es : List Int), vs = [.ref m, .int k] ∧ Bm K H m n es ∧ n ≤ 2 * 10 ^ 18 ∧ es.length ≤ 40000 ∧ ¬ 0 ≤ k ∧ ∀ H', Same H H' → Q (.bl true) H'
theorem pure__law_first_refused {K : Frag} (vs : List V) (H : Hp) (Q : VK) (E : XK) (h : sp__law_first_refused K vs H Q E) : t__law_first_refused K E { nx := fun _ H' => Q .non H', rt := Q } (start ["_law_made", "_law_k", "_law_told", "e"] vs) H := by
  obtain ⟨m, n, k, es, rfl, hb, n1, hl, hbad, q⟩ := h
  obtain ⟨cf, _, _, dx, u, sl, hu⟩ := id hb
  walk_at "gx"
  refine ⟨fun t0 nt0 => ?_⟩
  have e1 : Same H (upd H t0 (.lst [])) := same_new nt0
  walk_at "gx"
  refine fun sf => ?_
  refine .of (Same.slt e1 sl) ⟨m, n, k, es, rfl, hb.same e1, n1, hl, fun k0 => absurd k0 hbad, fun _ xf d nd => ?_⟩
  refine hdl_yes (by rw [mf_exm xf.mf sf.mf (by decide)] <;> first | rfl | decide) fun ea hea => ?_
  have e3 := e1.trans (same_new (o := .xd [("number", .int k)]) nd)
  refine ⟨d, [("number", .int k)], .int k, rfl, rfl, rfl, upd_same, rfl, ?_⟩
  refine fun m1 => ?_
  refine IsE.ofd xf.ec upd_same (by rw [mf_kit xf.mf m1] <;> first | rfl | decide) ?_
  refine fun m2 => ?_
  refine IsE.ofd xf.ec upd_same (by rw [mf_kit xf.mf m2] <;> first | rfl | decide) ?_
  walk_at "gx"
  refine ⟨fun t2 nt2 => ?_⟩
  walk_at "gx"
  refine ⟨fun t3 nt3 => ?_⟩
  have e4 := (e3.trans (same_new (o := .lst [.int k, .bl true, .bl false]) nt2)).trans (same_new (o := .lst [.int k, .bl true, .bl false]) nt3)
  refine eqd_told2 (SqL.of (same_new nt3 _ _ upd_same)) (SqL.of upd_same) ?_
  exact q _ e4
def sp__law_cut_refused (K : Frag) : Sp := fun vs H Q _ => ∃ (m : Addr) (n a b : Int) (es : List Int), vs = [.ref m, .int a, .int b] ∧ Bm K H m n es ∧ es.length ≤ 40000 ∧ ¬ (0 ≤ a ∧ a ≤ b ∧ b ≤ n) ∧ ∀ H', Same H H' → Q (.bl true) H'
theorem pure__law_cut_refused {K : Frag} (vs : List V) (H : Hp) (Q : VK) (E : XK) (h : sp__law_cut_refused K vs H Q E) : t__law_cut_refused K E { nx := fun _ H' => Q .non H', rt := Q } (start ["_law_made", "_law_start", "_law_stop", "_law_told", "e"] vs) H := by
  obtain ⟨m, n, a, b, es, rfl, hb, hl, hbad, q⟩ := h
  obtain ⟨cf, _, _, dx, u, sl, hu⟩ := id hb
  walk_at "gx"
  refine ⟨fun t0 nt0 => ?_⟩
  have e1 : Same H (upd H t0 (.lst [])) := same_new nt0
  walk_at "gx"
  refine fun sf => ?_
  refine .of (Same.slt e1 sl) ⟨m, n, a, b, es, rfl, hb.same e1, hl, fun a0 ab bn => absurd ⟨a0, ab, bn⟩ hbad, fun _ xf H2 e2 => ?_⟩
  refine hdl_yes (by rw [mf_exm xf.mf sf.mf (by decide)] <;> first | rfl | decide) fun ea hea => ?_
  refine fun m1 => ?_
  refine IsE.of xf.ec (by rw [mf_kit xf.mf m1] <;> first | rfl | decide) ?_
  refine fun m2 => ?_
  refine IsE.of xf.ec (by rw [mf_kit xf.mf m2] <;> first | rfl | decide) ?_
  walk_at "gx"
  refine ⟨fun t2 nt2 => ?_⟩
  walk_at "gx"
  refine ⟨fun t3 nt3 => ?_⟩
  have e4 := ((e1.trans e2).trans (same_new (o := .lst [.bl true, .bl false]) nt2)).trans (same_new (o := .lst [.bl true, .bl false]) nt3)
  refine eqd_bb (xs := [true, false]) (ys := [true, false]) (SqL.of (same_new nt3 _ _ upd_same)) (SqL.of upd_same) ?_
  rw [decide_eq_true rfl]
  exact q _ e4
end S
namespace S
open PySem PySem.Spec PyProof.Rows L2
def t__law_size_5 (K : Frag) (E : XK) : TS :=
    tRet (tOp (oAdd K) (dCall (sp__law_wide K) (EW E) (tCons (dVar 0) (tCons (dVar 1) (tCons (tOp oPow (tC (.int 10)) (tC (.int 18))) (tNil))))) (tC (.int 1)))
def t__law_size_4 (K : Frag) (E : XK) : TS :=
    tSeq (dIfS (dCmpT (oEq K) (dVar 2) (tC (.int 3))) (tRet (tOp oSub (tOp oPow (tC (.int 10)) (tC (.int 18))) (dCall (sp__law_draw K) (EW E) (tCons (dVar 0) (tCons (dVar 1) (tCons (tC (.int 1000)) (tNil))))))) (tNext))
    (stop (t__law_size_5 K E))
def t__law_size_3 (K : Frag) (E : XK) : TS :=
    tSeq (dIfS (dCmpT (oEq K) (dVar 2) (tC (.int 2))) (tRet (dCall (sp__law_draw K) (EW E) (tCons (dVar 0) (tCons (dVar 1) (tCons (tC (.int 61)) (tNil)))))) (tNext))
    (stop (t__law_size_4 K E))
def t__law_size_2 (K : Frag) (E : XK) : TS :=
    tSeq (dIfS (dCmpT (oEq K) (dVar 2) (tC (.int 1))) (tRet (dCall (sp__law_draw K) (EW E) (tCons (dVar 0) (tCons (dVar 1) (tCons (tC (.int 13)) (tNil)))))) (tNext))
    (stop (t__law_size_3 K E))
def t__law_size_1 (K : Frag) (E : XK) : TS :=
    tSeq (dIfS (dCmpT (oEq K) (dVar 2) (tC (.int 0))) (tRet (dCall (sp__law_draw K) (EW E) (tCons (dVar 0) (tCons (dVar 1) (tCons (tC (.int 4)) (tNil)))))) (tNext))
    (stop (t__law_size_2 K E))
def t__law_size (K : Frag) (E : XK) : TS :=
    tSeq (tAsg (dCall (sp__law_draw K) (EW E) (tCons (dVar 0) (tCons (dVar 1) (tCons (tC (.int 6)) (tNil))))) (gName 2))
    (stop (t__law_size_1 K E))
end S
-- fn: _law_size
-- law: k03
-- deps: D0 _law_wide
namespace S
open PySem PySem.Spec PyProof.Rows L2
/-- a size from 0 to 10 ** 18 -/
def sp__law_size (K : Frag) : Sp := fun vs H Q _ => ∃ (a st : Addr), vs = [.ref a, .ref st] ∧ Ctx K H a st ∧
  ∀ (r : Int) (H' : Hp), 0 ≤ r → r ≤ 10 ^ 18 → Ctx K H' a st → SameX st H H' → Q (.int r) H'
theorem pure__law_size {K : Frag} (vs : List V) (H : Hp) (Q : VK) (E : XK) (h : sp__law_size K vs H Q E) : t__law_size K E { nx := fun _ H' => Q .non H', rt := Q } (start ["_law_script", "_law_state", "_law_kind"] vs) H := by
  obtain ⟨a, st, rfl, hc, q⟩ := h
  walk_at "gx"
  refine ⟨a, st, _, rfl, hc, by decide, fun kd H1 h0 h1 c1 e1 => ?_⟩
  walk_at "gx"
  refine ifd (fun _ => ?_) fun _ => ?_
  · exact ⟨a, st, _, rfl, c1, by decide, fun r H2 h0 h1 c2 e2 => q _ _ h0 (by omega) c2 (e1.trans e2)⟩
  walk_at "gx"
  refine ifd (fun _ => ?_) fun _ => ?_
  · exact ⟨a, st, _, rfl, c1, by decide, fun r H2 h0 h1 c2 e2 => q _ _ h0 (by omega) c2 (e1.trans e2)⟩
  walk_at "gx"
  refine ifd (fun _ => ?_) fun _ => ?_
  · exact ⟨a, st, _, rfl, c1, by decide, fun r H2 h0 h1 c2 e2 => q _ _ h0 (by omega) c2 (e1.trans e2)⟩
  walk_at "gx"
  refine ifd (fun _ => ?_) fun _ => ?_
  · walk_at "gx"
    refine ⟨a, st, _, rfl, c1, by decide, fun r H2 h0 h1 c2 e2 => q _ _ (show (0 : Int) ≤ 10 ^ 18 - r by omega) (show 10 ^ 18 - r ≤ (10 : Int) ^ 18 by omega) c2 (e1.trans e2)⟩
  walk_at "gx"
  refine ⟨a, st, _, rfl, c1, by decide, fun r H2 h0 h1 c2 e2 => ?_⟩
  have h1' : r < 10 ^ 18 := h1
  exact q _ _ (show (0 : Int) ≤ r + 1 by omega) (show r + 1 ≤ (10 : Int) ^ 18 by omega) c2 (e1.trans e2)
end S
namespace S
open PySem PySem.Spec PyProof.Rows L2
def t_law_b1 (K : Frag) (E : XK) : TS :=
    dIfS (dNot (dTest K (dCall (sp__law_is_first K) (EW E) (tCons (dMeth K "Bitmap" (sp_Bitmap_first K) (EW E) (dVar 6) (tCons (dVar 11) (tNil))) (tCons (dVar 2) (tCons (dVar 3) (tCons (dVar 11) (tNil)))))))) (tRet (tC (.bl false))) (tNext)
def t_law_21 (K : Frag) (E : XK) : TS :=
    tRet (dAndV (tOp (oEqO K "Bitmap" (sp_Bitmapdd_eqdd K) E) (dAt K "size" (dVar 6)) (dVar 2)) (dAndV (tOp (oEqO K "Bitmap" (sp_Bitmapdd_eqdd K) E) (tCB (cList K) (tCons (dAt K "ends" (dVar 6)) (tNil))) (dVar 3)) (dAndV (tOp (oEqO K "Bitmap" (sp_Bitmapdd_eqdd K) E) (dAt K "size" (dVar 7)) (dVar 4)) (tOp (oEqO K "Bitmap" (sp_Bitmapdd_eqdd K) E) (tCB (cList K) (tCons (dAt K "ends" (dVar 7)) (tNil))) (dVar 5)))))
def t_law_20 (K : Frag) (E : XK) : TS :=
    tSeq (dIfS (dNot (dTest K (dCall (sp__law_cut_refused K) (EW E) (tCons (dVar 6) (tCons (tC (.int 0)) (tCons (tOp (oAdd K) (tOp (oAdd K) (dVar 2) (tC (.int 1))) (dVar 10)) (tNil))))))) (tRet (tC (.bl false))) (tNext))
    (stop (t_law_21 K E))
def t_law_19 (K : Frag) (E : XK) : TS :=
    tSeq (dIfS (dOr (dNot (dTest K (dCall (sp__law_cut_refused K) (EW E) (tCons (dVar 6) (tCons (tOp oSub (tUn uNeg (tC (.int 1))) (dVar 10)) (tCons (dVar 2) (tNil))))))) (dNot (dTest K (dCall (sp__law_cut_refused K) (EW E) (tCons (dVar 6) (tCons (tOp (oAdd K) (tOp (oAdd K) (dVar 12) (tC (.int 1))) (dVar 10)) (tCons (dVar 12) (tNil)))))))) (tRet (tC (.bl false))) (tNext))
    (stop (t_law_20 K E))
def t_law_18 (K : Frag) (E : XK) : TS :=
    tSeq (dIfS (dOr (dNot (dCmpT (oEqO K "Bitmap" (sp_Bitmapdd_eqdd K) E) (dVar 15) (dVar 6))) (dOr (dCmpT (oNe K) (tCB (cList K) (tCons (dAt K "ends" (dVar 15)) (tNil))) (dVar 3)) (dCmpT (oNe K) (dAt K "size" (dVar 15)) (dVar 2)))) (tRet (tC (.bl false))) (tNext))
    (stop (t_law_19 K E))
def t_law_17 (K : Frag) (E : XK) : TS :=
    tSeq (tAsg (dMeth K "Bitmap" (sp_Bitmap_joined K) (EW E) (dMeth K "Bitmap" (sp_Bitmap_cut K) (EW E) (dVar 6) (tCons (tC (.int 0)) (tCons (dVar 14) (tNil)))) (tCons (dMeth K "Bitmap" (sp_Bitmap_cut K) (EW E) (dVar 6) (tCons (dVar 14) (tCons (dVar 2) (tNil)))) (tNil))) (gName 15))
    (stop (t_law_18 K E))
def t_law_16 (K : Frag) (E : XK) : TS :=
    tSeq (dIfS (dOr (dNot (dTest K (dCall (sp__law_is_joined K) (EW E) (tCons (dMeth K "Bitmap" (sp_Bitmap_joined K) (EW E) (dVar 6) (tCons (dVar 7) (tNil))) (tCons (dVar 2) (tCons (dVar 3) (tCons (dVar 4) (tCons (dVar 5) (tNil))))))))) (dNot (dTest K (dCall (sp__law_is_joined K) (EW E) (tCons (dMeth K "Bitmap" (sp_Bitmap_joined K) (EW E) (dVar 6) (tCons (dVar 6) (tNil))) (tCons (dVar 2) (tCons (dVar 3) (tCons (dVar 2) (tCons (dVar 3) (tNil)))))))))) (tRet (tC (.bl false))) (tNext))
    (stop (t_law_17 K E))
def t_law_15 (K : Frag) (E : XK) : TS :=
    tSeq (dIfS (dNot (dTest K (dCall (sp__law_is_cut K) (EW E) (tCons (dMeth K "Bitmap" (sp_Bitmap_cut K) (EW E) (dVar 6) (tCons (dVar 12) (tCons (dVar 13) (tNil)))) (tCons (dVar 3) (tCons (dVar 12) (tCons (dVar 13) (tNil)))))))) (tRet (tC (.bl false))) (tNext))
    (stop (t_law_16 K E))
def t_law_14 (K : Frag) (E : XK) : TS :=
    tSeq (tAsg (dCall (sp__law_wide K) (EW E) (tCons (dVar 0) (tCons (dVar 1) (tCons (tOp (oAdd K) (dVar 2) (tC (.int 1))) (tNil))))) (gName 14))
    (stop (t_law_15 K E))
def t_law_13 (K : Frag) (E : XK) : TS :=
    tSeq (tAsg (tOp (oAdd K) (dVar 12) (dCall (sp__law_wide K) (EW E) (tCons (dVar 0) (tCons (dVar 1) (tCons (tOp (oAdd K) (tOp oSub (dVar 2) (dVar 12)) (tC (.int 1))) (tNil)))))) (gName 13))
    (stop (t_law_14 K E))
def t_law_12 (K : Frag) (E : XK) : TS :=
    tSeq (tAsg (dCall (sp__law_wide K) (EW E) (tCons (dVar 0) (tCons (dVar 1) (tCons (tOp (oAdd K) (dVar 2) (tC (.int 1))) (tNil))))) (gName 12))
    (stop (t_law_13 K E))
def t_law_11 (K : Frag) (E : XK) : TS :=
    tSeq (dIfS (dNot (dTest K (dCall (sp__law_first_refused K) (EW E) (tCons (dVar 6) (tCons (tOp oSub (tUn uNeg (tC (.int 1))) (dVar 10)) (tNil)))))) (tRet (tC (.bl false))) (tNext))
    (stop (t_law_12 K E))
def t_law_10 (K : Frag) (E : XK) : TS :=
    tSeq (dFor (iSeq K (dLst (tCons (tC (.int 0)) (tCons (tOp oFdiv (dVar 8) (tC (.int 2))) (tCons (dVar 8) (tCons (tOp (oAdd K) (dVar 8) (dVar 10)) (tCons (dVar 9) (tNil)))))))) (gName 11) (t_law_b1 K E))
    (stop (t_law_11 K E))
def t_law_9 (K : Frag) (E : XK) : TS :=
    tSeq (tAsg (dCall (sp__law_draw K) (EW E) (tCons (dVar 0) (tCons (dVar 1) (tCons (tC (.int 1000)) (tNil))))) (gName 10))
    (stop (t_law_10 K E))
def t_law_8 (K : Frag) (E : XK) : TS :=
    tSeq (tAsg (dCall (sp__law_wide K) (EW E) (tCons (dVar 0) (tCons (dVar 1) (tCons (tOp (oAdd K) (dVar 8) (tC (.int 1))) (tNil))))) (gName 9))
    (stop (t_law_9 K E))
def t_law_7 (K : Frag) (E : XK) : TS :=
    tSeq (tAsg (dCall (sp__law_below K) (EW E) (tCons (dCall (sp__law_runs K) (EW E) (tCons (dVar 2) (tCons (dVar 3) (tNil)))) (tCons (dVar 2) (tNil)))) (gName 8))
    (stop (t_law_8 K E))
def t_law_6 (K : Frag) (E : XK) : TS :=
    tSeq (tAsg (dGiv (CF K "Bitmap" ["ends", "size"]) (dMake K "Bitmap" (sp_Bitmapdd_initdd K) (EW E) (tCons (dVar 4) (tCons (dVar 5) (tNil))))) (gName 7))
    (stop (t_law_7 K E))
def t_law_5 (K : Frag) (E : XK) : TS :=
    tSeq (tAsg (dGiv (CF K "Bitmap" ["ends", "size"]) (dMake K "Bitmap" (sp_Bitmapdd_initdd K) (EW E) (tCons (dVar 2) (tCons (dVar 3) (tNil))))) (gName 6))
    (stop (t_law_6 K E))
def t_law_4 (K : Frag) (E : XK) : TS :=
    tSeq (tAsg (dCall (sp__law_ends K) (EW E) (tCons (dVar 0) (tCons (dVar 1) (tCons (dVar 4) (tCons (tC (.int 12)) (tNil)))))) (gName 5))
    (stop (t_law_5 K E))
def t_law_3 (K : Frag) (E : XK) : TS :=
    tSeq (tAsg (tOp oFdiv (dCall (sp__law_size K) (EW E) (tCons (dVar 0) (tCons (dVar 1) (tNil)))) (tC (.int 2))) (gName 4))
    (stop (t_law_4 K E))
def t_law_2 (K : Frag) (E : XK) : TS :=
    tSeq (tAsg (dCall (sp__law_ends K) (EW E) (tCons (dVar 0) (tCons (dVar 1) (tCons (dVar 2) (tCons (tC (.int 12)) (tNil)))))) (gName 3))
    (stop (t_law_3 K E))
def t_law_1 (K : Frag) (E : XK) : TS :=
    tSeq (tAsg (tOp oFdiv (dCall (sp__law_size K) (EW E) (tCons (dVar 0) (tCons (dVar 1) (tNil)))) (tC (.int 2))) (gName 2))
    (stop (t_law_2 K E))
def t_law (K : Frag) (E : XK) : TS :=
    tSeq (tAsg (dLst (tCons (tC (.int 0)) (tCons (tC (.int 0)) (tCons (tC (.int 0)) (tCons (tC (.int 0)) (tNil)))))) (gName 1))
    (stop (t_law_1 K E))
end S
-- fn: law
-- law: k07
-- own: Eq=Bitmap
-- deps: _law_is_first _law_is_cut _law_is_joined _law_cut_refused Bitmap_ops _law_size _law_ends _law_wide _law_draw Bx Li D0 D1
namespace S
open PySem PySem.Spec PyProof.Rows L2
section
variable {K : Frag} {E : XK} {Q : VK}
def s07 (a st : Addr) (n : Int) (p : Addr) (m : Int) (r x y : Addr) (many : Int) (so sp k sa so2 mi ba : Option V) : L2.St := [some (.ref a), some (.ref st), some (.int n), some (.ref p), some (.int m), some (.ref r), some (.ref x), some (.ref y), some (.int many), so, sp, k, sa, so2, mi, ba]
structure C07 (K : Frag) (H : Hp) (n m : Int) (es fs : List Int) (p r x y : Addr) : Prop where
  n0 : 0 ≤ n
  n1 : n ≤ 5 * 10 ^ 17
  m0 : 0 ≤ m
  m1 : m ≤ 5 * 10 ^ 17
  hE : Ends n es
  hF : Ends m fs
  le : es.length ≤ 12
  lf : fs.length ≤ 12
  p : H p = some (.lst (es.map V.int))
  r : H r = some (.lst (fs.map V.int))
  x : Bm K H x n es
  y : Bm K H y m fs
theorem C07.same {H H' : Hp} {n m : Int} {es fs : List Int} {p r x y : Addr} (c : C07 K H n m es fs p r x y) (e : Same H H') : C07 K H' n m es fs p r x y := ⟨c.n0, c.n1, c.m0, c.m1, c.hE, c.hF, c.le, c.lf, e _ _ c.p, e _ _ c.r, c.x.same e, c.y.same e⟩
theorem C07.st {st : Addr} {H H' : Hp} {n m : Int} {es fs : List Int} {p r x y : Addr} {l : List V} (c : C07 K H n m es fs p r x y) (e : SameX st H H') (hst : H st = some (.lst l)) (n1 : p ≠ st) (n2 : r ≠ st) : C07 K H' n m es fs p r x y :=
  ⟨c.n0, c.n1, c.m0, c.m1, c.hE, c.hF, c.le, c.lf, e _ _ c.p n1, e _ _ c.r n2, c.x.x e hst, c.y.x e hst⟩
theorem cut_len {es : List Int} {a b : Int} : (cutE es a b).length ≤ es.length + 1 := by
  have : (cutI es a b).length ≤ es.length := by
    unfold cutI
    rw [List.length_map]
    exact List.length_filter_le _ _
  unfold cutE
  split
  · rw [List.length_cons]; omega
  · omega
theorem k07_18 {a st p r x y b : Addr} {n m sp sa many : Int} {es fs : List Int} {H : Hp} {so k so2 mi : Option V} (c : C07 K H n m es fs p r x y) (hb : Bm K H b n es) (s0 : 0 ≤ sp) (q : ∀ H', Q (.bl true) H') :
    t_law_18 K E { nx := fun _ H' => Q .non H', rt := Q } (s07 a st n p m r x y many so (some (.int sp)) k (some (.int sa)) so2 mi (some (.ref b))) H := by
  obtain ⟨cf, _, _, dx, u, sl, hu⟩ := id c.x
  obtain ⟨_, _, _, db, ub, slb, hub⟩ := id hb
  have le := c.le
  have lf := c.lf
  walk_at "gx"
  refine .own slb sl ⟨b, x, n, n, es, es, rfl, hb, c.x, ?_⟩
  rw [decide_eq_true ⟨rfl, rfl⟩]
  walk_at "gx"
  refine Atr.sl cf slb (i := 0) rfl rfl ?_
  walk_at "gx"
  refine new_ints es fun d H1 e1 _ h1 => ?_
  refine eqd_ll (SqL.of h1) (SqL.of (e1 _ _ c.p)) ?_
  refine ifnf rfl ?_
  refine Atr.sl cf (Same.slt e1 slb) (i := 1) rfl rfl ?_
  refine ifnf rfl ?_
  have c1 := c.same e1
  walk_at "gx"
  refine ⟨x, n, -1 - sp, n, es, rfl, c1.x, by omega, by omega, fun H2 e2 => ?_⟩
  have c2 := c1.same e2
  refine ⟨x, n, sa + 1 + sp, sa, es, rfl, c2.x, by omega, by omega, fun H3 e3 => ?_⟩
  have c3 := c2.same e3
  walk_at "gx"
  refine ⟨x, n, 0, n + 1 + sp, es, rfl, c3.x, by omega, by omega, fun H4 e4 => ?_⟩
  have c4 := c3.same e4
  obtain ⟨_, _, _, dx4, u4, sl4, hu4⟩ := id c4.x
  obtain ⟨_, _, _, dy4, w4, sy4, hw4⟩ := id c4.y
  walk_at "gx"
  refine Atr.sl cf sl4 (i := 1) rfl rfl ?_
  show bIf (decide (n = n)) _ _
  refine ift rfl ?_
  refine Atr.sl cf sl4 (i := 0) rfl rfl ?_
  walk_at "gx"
  refine new_ints es fun d5 H5 e5 _ h5 => ?_
  refine .dat (eqd_ll (SqL.of h5) (SqL.of (e5 _ _ c4.p)) ?_)
  refine ift rfl ?_
  refine Atr.sl cf (Same.slt e5 sy4) (i := 1) rfl rfl ?_
  show bIf (decide (m = m)) _ _
  refine ift rfl ?_
  refine Atr.sl cf (Same.slt e5 sy4) (i := 0) rfl rfl ?_
  have hw5 := Same.tup e5 hw4
  walk_at "gx"
  refine new_ints fs fun d6 H6 e6 _ h6 => ?_
  refine .dat (eqd_ll (SqL.of h6) (SqL.of ((e5.trans e6) _ _ c4.r)) ?_)
  rw [decide_eq_true rfl]
  exact q _
theorem k07_14 {a st p r x y : Addr} {n m sp sa so2 many : Int} {es fs : List Int} {H : Hp} {so k : Option V} (c : C07 K H n m es fs p r x y) (cx : Ctx K H a st) (np : p ≠ st) (nr : r ≠ st) (s0 : 0 ≤ sp) (a0 : 0 ≤ sa) (ab : sa ≤ so2) (bn : so2 ≤ n) (q : ∀ H', Q (.bl true) H') :
    t_law_14 K E { nx := fun _ H' => Q .non H', rt := Q } (s07 a st n p m r x y many so (some (.int sp)) k (some (.int sa)) (some (.int so2)) none none) H := by
  have le := c.le
  have lf := c.lf
  have n0 := c.n0
  walk_at "gx"
  refine ⟨a, st, n + 1, rfl, cx, by omega, fun mi H1 i0 i1 cx1 e1 => ?_⟩
  obtain ⟨l, hst⟩ := ctx_st cx
  have c1 := c.st e1 hst np nr
  obtain ⟨_, _, _, dx1, u1, sl1, hu1⟩ := id c1.x
  walk_at "gx"
  refine .of sl1 ⟨x, n, sa, so2, es, rfl, c1.x, by omega, fun _ _ _ z H2 e2 _ hz => ?_, fun nb => absurd ⟨a0, ab, bn⟩ nb⟩
  have c2 := c1.same e2
  refine ⟨z, p, n, sa, so2, es, rfl, hz, c2.p, c.hE, a0, ab, bn, by omega, fun H3 e3 => ?_⟩
  have c3 := c2.same e3
  obtain ⟨_, _, _, dx3, u3, sl3, hu3⟩ := id c3.x
  walk_at "gx"
  refine .of sl3 ⟨x, y, n, m, es, fs, rfl, c3.x, c3.y, by omega, by omega, fun z H4 e4 _ hz => ?_⟩
  have c4 := c3.same e4
  refine ⟨z, p, r, n, m, es, fs, rfl, hz, c4.p, c4.r, c.hE, c.hF, c.n0, c.m0, by omega, by omega, fun H5 e5 => ?_⟩
  have c5 := c4.same e5
  obtain ⟨_, _, _, dx5, u5, sl5, hu5⟩ := id c5.x
  walk_at "gx"
  refine .of sl5 ⟨x, x, n, n, es, es, rfl, c5.x, c5.x, by omega, by omega, fun z H6 e6 _ hz => ?_⟩
  have c6 := c5.same e6
  refine ⟨z, p, p, n, n, es, es, rfl, hz, c6.p, c6.p, c.hE, c.hE, c.n0, c.n0, by omega, by omega, fun H7 e7 => ?_⟩
  have c7 := c6.same e7
  obtain ⟨_, _, _, dx7, u7, sl7, hu7⟩ := id c7.x
  walk_at "gx"
  refine .of sl7 ⟨x, n, 0, mi, es, rfl, c7.x, by omega, fun _ _ _ z H8 e8 _ hz => ?_, fun nb => absurd ⟨Int.le_refl _, i0, by omega⟩ nb⟩
  have c8 := c7.same e8
  obtain ⟨_, _, _, dx8, u8, sl8, hu8⟩ := id c8.x
  obtain ⟨_, _, _, dz8, v8, sz8, hv8⟩ := id hz
  refine .of sz8 ?_
  refine .of sl8 ⟨x, n, mi, n, es, rfl, c8.x, by omega, fun _ _ _ w H9 e9 _ hw => ?_, fun nb => absurd ⟨i0, by omega, Int.le_refl _⟩ nb⟩
  have c9 := c8.same e9
  have l1 := cut_len (es := es) (a := 0) (b := mi)
  have l2 := cut_len (es := es) (a := mi) (b := n)
  refine ⟨z, w, mi - 0, n - mi, _, _, rfl, hz.same e9, hw, by omega, by omega, fun b HA eA _ hb => ?_⟩
  have h1 : Ends (mi - 0) (cutE es 0 mi) := cutE_ends c.hE
  have h2 : Ends (n - mi) (cutE es mi n) := cutE_ends c.hE
  have hj := jnE_ends (by omega) (by omega) h1 h2
  have ej : jnE (mi - 0) (n - mi) (cutE es 0 mi) (cutE es mi n) = es := by
    refine uniq_ends (n := n) _ es 0 hj.1 c.hE.1 (fun w hw => ?_) c.hE.2 fun row r0 r1 => ?_
    · have := hj.2 w hw; omega
    · by_cases h : row < mi
      · rw [jnE_low h2 (by omega), cutE_in r0 (by omega), Int.zero_add]
      · rw [jnE_high h1 h2 (by omega) (by omega), cutE_in (by omega) (by omega)]
        congr 1
        omega
  rw [ej] at hb
  have en : mi - 0 + (n - mi) = n := by omega
  rw [en] at hb
  exact ⟨k07_18 (c9.same eA) hb s0 q⟩
theorem k07_8 {a st p r x y : Addr} {n m : Int} {es fs : List Int} {H : Hp} (c : C07 K H n m es fs p r x y) (cx : Ctx K H a st) (np : p ≠ st) (nr : r ≠ st) (q : ∀ H', Q (.bl true) H') :
    t_law_8 K E { nx := fun _ H' => Q .non H', rt := Q } (s07 a st n p m r x y (rankF n es 1) none none none none none none none) H := by
  have le := c.le
  have lf := c.lf
  have n0 := c.n0
  have n1 := c.n1
  have rk := rank_le c.hE (Int.le_refl 0) n0
  rw [rank_zero es 1 fun x hx => (c.hE.2 x hx).1] at rk
  walk_at "gx"
  refine ⟨a, st, rankF n es 1 + 1, rfl, cx, by omega, fun so H1 i0 i1 cx1 e1 => ?_⟩
  obtain ⟨l, hst⟩ := ctx_st cx
  have c1 := c.st e1 hst np nr
  walk_at "gx"
  refine ⟨a, st, 1000, rfl, cx1, by decide, fun sp H2 s0 s1 cx2 e2 => ?_⟩
  obtain ⟨l1, hst1⟩ := ctx_st cx1
  have c2 := c1.st e2 hst1 np nr
  walk_at "gx"
  refine new_ints [0, rankF n es 1 / 2, rankF n es 1, rankF n es 1 + sp, so] fun d H3 e3 _ h3 => ?_
  have c3 := c2.same e3
  refine for_seq (K := K) (fun i σ HA => ∃ (k : Option V), σ = s07 a st n p m r x y (rankF n es 1) (some (.int so)) (some (.int sp)) k none none none none ∧ Same H3 HA) (.inl (SqL.of h3)) ⟨none, rfl, Same.refl _⟩ (fun i σ H1 _ z => let ⟨_, _, e⟩ := z; Same.stay e) ?_ ?_
  · rintro i v σ HA hj ⟨k, rfl, eA⟩
    obtain ⟨j, hj2, rfl⟩ := map_get hj
    have j0 : 0 ≤ j := by
      have hjm := List.mem_of_getElem? hj2
      simp only [List.mem_cons, List.not_mem_nil, or_false] at hjm
      rcases hjm with rfl | rfl | rfl | rfl | rfl <;> omega
    have cA := c3.same eA
    obtain ⟨_, _, _, dxA, uA, slA, huA⟩ := id cA.x
    walk_at "gx"
    refine .of slA ⟨x, n, j, es, rfl, cA.x, by omega, by omega, fun _ z gs HB eB hz hlg hrow hmem => ?_, fun nb => absurd j0 nb⟩
    have cB := cA.same eB
    have lg : gs.length ≤ 1000 := by omega
    refine ⟨z, p, n, j, es, gs, rfl, hz, cB.p, c.hE, by omega, lg, hrow, fun HC eC => ?_⟩
    exact ⟨_, rfl, (eA.trans eB).trans eC⟩
  · rintro σ HA ⟨k, rfl, eA⟩
    have cA := c3.same eA
    have cxA := cx2.same (e3.trans eA)
    walk_at "gx"
    refine ⟨x, n, -1 - sp, es, rfl, cA.x, by omega, by omega, by omega, fun HB eB => ?_⟩
    have cB := cA.same eB
    have cxB := cxA.same eB
    walk_at "gx"
    refine ⟨a, st, n + 1, rfl, cxB, by omega, fun sa HC a0 a1 cxC eC => ?_⟩
    obtain ⟨lB, hstB⟩ := ctx_st cxB
    have cC := cB.st eC hstB np nr
    walk_at "gx"
    refine ⟨a, st, n - sa + 1, rfl, cxC, by omega, fun wd HD w0 w1 cxD eD => ?_⟩
    obtain ⟨lC, hstC⟩ := ctx_st cxC
    have cD := cC.st eD hstC np nr
    exact ⟨k07_14 cD cxD np nr s0 a0 (by omega) (by omega) q⟩
end
theorem pure_law {K : Frag} (vs : List V) (H : Hp) (Q : VK) (E : XK) (h : sp_law K vs H Q E) : t_law K E { nx := fun _ H' => Q .non H', rt := Q } (start ["_law_script", "_law_state", "_law_size_here", "_law_one", "_law_far", "_law_other", "_law_a", "_law_b", "_law_many", "_law_some", "_law_step", "_law_k", "_law_start", "_law_stop", "_law_middle", "_law_back"] vs) H := by
  obtain ⟨a, ns, rfl, hs, q⟩ := h
  walk_at "gx"
  refine ⟨fun st nst => ?_⟩
  have c1 : Ctx K (upd H st (.lst [.int 0, .int 0, .int 0, .int 0])) a st := ctx0 hs nst _ ⟨0, 0, 0, 0, rfl, by decide, by decide, .inl rfl⟩
  walk_at "gx"
  refine ⟨a, st, rfl, c1, fun n H1 n0 nn c2 e1 => ?_⟩
  walk_at "gx"
  refine ⟨a, st, n / 2, _, rfl, c2, by omega, by omega, by decide, by decide, fun p es H2 np hp hE lp c3 e2 => ?_⟩
  have pst := ctx_ne c2 np
  have lp : (es.length : Int) ≤ 12 := lp
  walk_at "gx"
  refine ⟨a, st, rfl, c3, fun m H3 m0 mm c4 e3 => ?_⟩
  have hp3 := e3 _ _ hp pst
  walk_at "gx"
  refine ⟨a, st, m / 2, _, rfl, c4, by omega, by omega, by decide, by decide, fun r fs H4 nr hr hF lr c5 e4 => ?_⟩
  have rst := ctx_ne c4 nr
  have lr : (fs.length : Int) ≤ 12 := lr
  have hp4 := e4 _ _ hp3 pst
  walk_at "gx"
  refine fun cf => ?_
  refine mk_bitmap cf (.inl (SqL.of hp4)) (fun _ _ x H5 e5 _ hx => ?_) (fun nb => absurd ⟨by show 0 ≤ n / 2; omega, hE⟩ nb)
  walk_at "gx"
  refine fun cf => ?_
  refine mk_bitmap cf (.inl (SqL.of (e5 _ _ hr))) (fun _ _ y H6 e6 _ hy => ?_) (fun nb => absurd ⟨by show 0 ≤ m / 2; omega, hF⟩ nb)
  have e46 := e5.trans e6
  have c6 : C07 K H6 (n / 2) (m / 2) es fs p r x y := ⟨by omega, by omega, by omega, by omega, hE, hF, by omega, by omega, e46 _ _ hp4, e46 _ _ hr, hx.same e6, hy⟩
  walk_at "gx"
  refine ⟨n / 2, p, es, rfl, c6.p, by omega, fun pr ys H7 npr hpr hP e7 => ?_⟩
  refine ⟨pr, n / 2, ys, runsP (n / 2) es, rfl, hpr, hP, fun H8 e8 => ?_⟩
  rw [belF_runs (Int.le_refl _) es hE.1]
  have e68 := e7.trans e8
  exact ⟨k07_8 (c6.same e68) ((c5.same e46).same e68) pst rst q⟩
end S
namespace S
open PySem PySem.Spec PyProof.Rows L2
theorem sc__law_draw : FnScope ["_law_script", "_law_state", "_law_base", "_law_here", "_law_number", "_law_digit", "_law_mixed"] ["_law_script", "_law_state", "_law_base"] (defScope s__law_draw) := ⟨rfl, rfl, rfl, by decide +kernel, rfl, by decide +kernel, by decide +kernel⟩
theorem sc__law_wide : FnScope ["_law_script", "_law_state", "_law_limit", "_law_number", "_law_k"] ["_law_script", "_law_state", "_law_limit"] (defScope s__law_wide) := ⟨rfl, rfl, rfl, by decide +kernel, rfl, by decide +kernel, by decide +kernel⟩
theorem sc__law_size : FnScope ["_law_script", "_law_state", "_law_kind"] ["_law_script", "_law_state"] (defScope s__law_size) := ⟨rfl, rfl, rfl, by decide +kernel, rfl, by decide +kernel, by decide +kernel⟩
theorem sc__law_ends : FnScope ["_law_script", "_law_state", "_law_size_here", "_law_most", "_law_ends_here", "_law_at", "_law_k", "_law_kind"] ["_law_script", "_law_state", "_law_size_here", "_law_most"] (defScope s__law_ends) := ⟨rfl, rfl, rfl, by decide +kernel, rfl, by decide +kernel, by decide +kernel⟩
theorem sc_Bitmapdd_initdd : FnScope ["self", "size", "ends", "last", "end"] ["self", "size", "ends"] (defScope s_Bitmapdd_initdd) := ⟨rfl, rfl, rfl, by decide +kernel, rfl, by decide +kernel, by decide +kernel⟩
theorem sc__law_runs : FnScope ["_law_size_here", "_law_ends_here", "_law_runs_here", "_law_k", "_law_stop"] ["_law_size_here", "_law_ends_here"] (defScope s__law_runs) := ⟨rfl, rfl, rfl, by decide +kernel, rfl, by decide +kernel, by decide +kernel⟩
theorem sc__law_below : FnScope ["_law_runs_here", "_law_row", "_law_many", "_law_run"] ["_law_runs_here", "_law_row"] (defScope s__law_below) := ⟨rfl, rfl, rfl, by decide +kernel, rfl, by decide +kernel, by decide +kernel⟩
theorem sc_Bitmap_rank : FnScope ["self", "row", "below", "k", "end"] ["self", "row"] (defScope s_Bitmap_rank) := ⟨rfl, rfl, rfl, by decide +kernel, rfl, by decide +kernel, by decide +kernel⟩
theorem sc_Bitmap_ones : FnScope ["self"] ["self"] (defScope s_Bitmap_ones) := ⟨rfl, rfl, rfl, by decide +kernel, rfl, by decide +kernel, by decide +kernel⟩
theorem sc_Bitmap_runs : GScope ["self", "start", "end"] ["self"] (defScope s_Bitmap_runs) := ⟨rfl, rfl, rfl, by decide +kernel, rfl, by decide +kernel, by decide +kernel⟩
theorem sc_Bitmap_nth : FnScope ["self", "k", "left", "row", "start", "stop"] ["self", "k"] (defScope s_Bitmap_nth) := ⟨rfl, rfl, rfl, by decide +kernel, rfl, by decide +kernel, by decide +kernel⟩
theorem sc_Bitmap_span : FnScope ["size", "start", "stop"] ["size", "start", "stop"] (defScope s_Bitmap_span) := ⟨rfl, rfl, rfl, by decide +kernel, rfl, by decide +kernel, by decide +kernel⟩
theorem sc_next_end : FnScope ["one", "i", "other", "j"] ["one", "i", "other", "j"] (defScope s_next_end) := ⟨rfl, rfl, rfl, by decide +kernel, rfl, by decide +kernel, by decide +kernel⟩
theorem sc_swept : FnScope ["one", "other", "rule", "ends", "i", "j", "first", "second", "bit", "at"] ["one", "other", "rule"] (defScope s_swept) := ⟨rfl, rfl, rfl, by decide +kernel, rfl, by decide +kernel, by decide +kernel⟩
theorem sc_Bitmap_paired : FnScope ["self", "other", "rule"] ["self", "other", "rule"] (defScope s_Bitmap_paired) := ⟨rfl, rfl, rfl, by decide +kernel, rfl, by decide +kernel, by decide +kernel⟩
theorem sc_Bitmapdd_anddd : FnScope ["self", "other"] ["self", "other"] (defScope s_Bitmapdd_anddd) := ⟨rfl, rfl, rfl, by decide +kernel, rfl, by decide +kernel, by decide +kernel⟩
theorem sc_Bitmap_first : FnScope ["self", "k"] ["self", "k"] (defScope s_Bitmap_first) := ⟨rfl, rfl, rfl, by decide +kernel, rfl, by decide +kernel, by decide +kernel⟩
theorem sc__law_is_number : FnScope ["_law_x"] ["_law_x"] (defScope s__law_is_number) := ⟨rfl, rfl, rfl, by decide +kernel, rfl, by decide +kernel, by decide +kernel⟩
theorem sc__law_is_bitmap : FnScope ["_law_x", "_law_size_here", "_law_last", "_law_end"] ["_law_x", "_law_size_here"] (defScope s__law_is_bitmap) := ⟨rfl, rfl, rfl, by decide +kernel, rfl, by decide +kernel, by decide +kernel⟩
theorem sc__law_in : FnScope ["_law_ends_here", "_law_row", "_law_inside", "_law_end"] ["_law_ends_here", "_law_row"] (defScope s__law_in) := ⟨rfl, rfl, rfl, by decide +kernel, rfl, by decide +kernel, by decide +kernel⟩
theorem sc__law_is_first : FnScope ["_law_made", "_law_size_here", "_law_ends_here", "_law_k", "_law_runs_here", "_law_starts", "_law_row", "_law_due", "_law_start"] ["_law_made", "_law_size_here", "_law_ends_here", "_law_k"] (defScope s__law_is_first) := ⟨rfl, rfl, rfl, by decide +kernel, rfl, by decide +kernel, by decide +kernel⟩
theorem sc__law_first_refused : FnScope ["_law_made", "_law_k", "_law_told", "e"] ["_law_made", "_law_k"] (defScope s__law_first_refused) := ⟨rfl, rfl, rfl, by decide +kernel, rfl, by decide +kernel, by decide +kernel⟩
theorem sc_Bitmapdd_containsdd : FnScope ["self", "row", "end"] ["self", "row"] (defScope s_Bitmapdd_containsdd) := ⟨rfl, rfl, rfl, by decide +kernel, rfl, by decide +kernel, by decide +kernel⟩
theorem sc_Bitmap_cut : FnScope ["self", "start", "stop", "ends", "end"] ["self", "start", "stop"] (defScope s_Bitmap_cut) := ⟨rfl, rfl, rfl, by decide +kernel, rfl, by decide +kernel, by decide +kernel⟩
theorem sc__law_is_cut : FnScope ["_law_made", "_law_ends_here", "_law_start", "_law_stop", "_law_row", "_law_end"] ["_law_made", "_law_ends_here", "_law_start", "_law_stop"] (defScope s__law_is_cut) := ⟨rfl, rfl, rfl, by decide +kernel, rfl, by decide +kernel, by decide +kernel⟩
theorem sc_turned : FnScope ["ends", "size"] ["ends", "size"] (defScope s_turned) := ⟨rfl, rfl, rfl, by decide +kernel, rfl, by decide +kernel, by decide +kernel⟩
theorem sc_Bitmap_joined : FnScope ["self", "other", "ends", "end"] ["self", "other"] (defScope s_Bitmap_joined) := ⟨rfl, rfl, rfl, by decide +kernel, rfl, by decide +kernel, by decide +kernel⟩
theorem sc__law_is_joined : FnScope ["_law_made", "_law_size_here", "_law_one", "_law_far", "_law_other", "_law_row", "_law_end"] ["_law_made", "_law_size_here", "_law_one", "_law_far", "_law_other"] (defScope s__law_is_joined) := ⟨rfl, rfl, rfl, by decide +kernel, rfl, by decide +kernel, by decide +kernel⟩
theorem sc_Bitmapdd_eqdd : FnScope ["self", "other"] ["self", "other"] (defScope s_Bitmapdd_eqdd) := ⟨rfl, rfl, rfl, by decide +kernel, rfl, by decide +kernel, by decide +kernel⟩
theorem sc__law_cut_refused : FnScope ["_law_made", "_law_start", "_law_stop", "_law_told", "e"] ["_law_made", "_law_start", "_law_stop"] (defScope s__law_cut_refused) := ⟨rfl, rfl, rfl, by decide +kernel, rfl, by decide +kernel, by decide +kernel⟩
theorem sc_law : FnScope ["_law_script", "_law_state", "_law_size_here", "_law_one", "_law_far", "_law_other", "_law_a", "_law_b", "_law_many", "_law_some", "_law_step", "_law_k", "_law_start", "_law_stop", "_law_middle", "_law_back"] ["_law_script"] (defScope s_law) := ⟨rfl, rfl, rfl, by decide +kernel, rfl, by decide +kernel, by decide +kernel⟩
structure T0 (P : Program) (K : Frag) (mg : Str → Option Value) : Prop where
  n_abs : mg "abs" = none
  n_bool : mg "bool" = none
  n_enumerate : mg "enumerate" = none
  n_int : mg "int" = none
  n_isinstance : mg "isinstance" = none
  n_len : mg "len" = none
  n_list : mg "list" = none
  n_min : mg "min" = none
  n_range : mg "range" = none
  n_super : mg "super" = none
  n_tuple : mg "tuple" = none
  g_AND : mg "AND" = some (.ref (He.ga K "AND"))
  g_BadBitmap : mg "BadBitmap" = some (.ref (He.ga K "BadBitmap"))
  g_Bitmap : mg "Bitmap" = some (.ref (He.ga K "Bitmap"))
  g_NoSuchRank : mg "NoSuchRank" = some (.ref (He.ga K "NoSuchRank"))
  g_NoSuchRow : mg "NoSuchRow" = some (.ref (He.ga K "NoSuchRow"))
  g_SizesDiffer : mg "SizesDiffer" = some (.ref (He.ga K "SizesDiffer"))
  g_SliceError : mg "SliceError" = some (.ref (He.ga K "SliceError"))
  g__law_below : mg "_law_below" = some (.ref (He.ga K "_law_below"))
  g__law_cut_refused : mg "_law_cut_refused" = some (.ref (He.ga K "_law_cut_refused"))
  g__law_draw : mg "_law_draw" = some (.ref (He.ga K "_law_draw"))
  g__law_ends : mg "_law_ends" = some (.ref (He.ga K "_law_ends"))
  g__law_first_refused : mg "_law_first_refused" = some (.ref (He.ga K "_law_first_refused"))
  g__law_in : mg "_law_in" = some (.ref (He.ga K "_law_in"))
  g__law_is_bitmap : mg "_law_is_bitmap" = some (.ref (He.ga K "_law_is_bitmap"))
  g__law_is_cut : mg "_law_is_cut" = some (.ref (He.ga K "_law_is_cut"))
  g__law_is_first : mg "_law_is_first" = some (.ref (He.ga K "_law_is_first"))
  g__law_is_joined : mg "_law_is_joined" = some (.ref (He.ga K "_law_is_joined"))
  g__law_is_number : mg "_law_is_number" = some (.ref (He.ga K "_law_is_number"))
  g__law_runs : mg "_law_runs" = some (.ref (He.ga K "_law_runs"))
  g__law_size : mg "_law_size" = some (.ref (He.ga K "_law_size"))
  g__law_wide : mg "_law_wide" = some (.ref (He.ga K "_law_wide"))
  g_law : mg "law" = some (.ref (He.ga K "law"))
  g_next_end : mg "next_end" = some (.ref (He.ga K "next_end"))
  g_swept : mg "swept" = some (.ref (He.ga K "swept"))
  g_turned : mg "turned" = some (.ref (He.ga K "turned"))
  F__law_draw : ∃ fd, FunD K "_law_draw" "_law_draw" (defArgs s__law_draw) (defBody s__law_draw) (defScope s__law_draw) [] [] (He.fAd K ("_law_draw", none)) fd
  k__law_draw : PySem.W.keepIn K (.ref (He.fAd K ("_law_draw", none))) = true
  F__law_wide : ∃ fd, FunD K "_law_wide" "_law_wide" (defArgs s__law_wide) (defBody s__law_wide) (defScope s__law_wide) [] [] (He.fAd K ("_law_wide", none)) fd
  k__law_wide : PySem.W.keepIn K (.ref (He.fAd K ("_law_wide", none))) = true
  F__law_size : ∃ fd, FunD K "_law_size" "_law_size" (defArgs s__law_size) (defBody s__law_size) (defScope s__law_size) [] [] (He.fAd K ("_law_size", none)) fd
  k__law_size : PySem.W.keepIn K (.ref (He.fAd K ("_law_size", none))) = true
  F__law_ends : ∃ fd, FunD K "_law_ends" "_law_ends" (defArgs s__law_ends) (defBody s__law_ends) (defScope s__law_ends) [] [] (He.fAd K ("_law_ends", none)) fd
  k__law_ends : PySem.W.keepIn K (.ref (He.fAd K ("_law_ends", none))) = true
  F_Bitmapdd_initdd : ∃ fd, FunD K "__init__" "Bitmap.__init__" (defArgs s_Bitmapdd_initdd) (defBody s_Bitmapdd_initdd) (defScope s_Bitmapdd_initdd) [V.ref (He.dflAt ("Bitmap", some "__init__") 0 K)] [] (He.fAd K ("Bitmap", some "__init__")) fd
  k_Bitmapdd_initdd : PySem.W.keepIn K (.ref (He.fAd K ("Bitmap", some "__init__"))) = true
  F__law_runs : ∃ fd, FunD K "_law_runs" "_law_runs" (defArgs s__law_runs) (defBody s__law_runs) (defScope s__law_runs) [] [] (He.fAd K ("_law_runs", none)) fd
  k__law_runs : PySem.W.keepIn K (.ref (He.fAd K ("_law_runs", none))) = true
  F__law_below : ∃ fd, FunD K "_law_below" "_law_below" (defArgs s__law_below) (defBody s__law_below) (defScope s__law_below) [] [] (He.fAd K ("_law_below", none)) fd
  k__law_below : PySem.W.keepIn K (.ref (He.fAd K ("_law_below", none))) = true
  F_Bitmap_rank : ∃ fd, FunD K "rank" "Bitmap.rank" (defArgs s_Bitmap_rank) (defBody s_Bitmap_rank) (defScope s_Bitmap_rank) [] [] (He.fAd K ("Bitmap", some "rank")) fd
  k_Bitmap_rank : PySem.W.keepIn K (.ref (He.fAd K ("Bitmap", some "rank"))) = true
  F_Bitmap_ones : ∃ fd, FunD K "ones" "Bitmap.ones" (defArgs s_Bitmap_ones) (defBody s_Bitmap_ones) (defScope s_Bitmap_ones) [] [] (uA K "Bitmap" "ones") fd
  k_Bitmap_ones : PySem.W.keepIn K (.ref (uA K "Bitmap" "ones")) = true
  F_Bitmap_runs : ∃ fd, FunD K "runs" "Bitmap.runs" (defArgs s_Bitmap_runs) (defBody s_Bitmap_runs) (defScope s_Bitmap_runs) [] [] (He.fAd K ("Bitmap", some "runs")) fd
  k_Bitmap_runs : PySem.W.keepIn K (.ref (He.fAd K ("Bitmap", some "runs"))) = true
  F_Bitmap_nth : ∃ fd, FunD K "nth" "Bitmap.nth" (defArgs s_Bitmap_nth) (defBody s_Bitmap_nth) (defScope s_Bitmap_nth) [] [] (He.fAd K ("Bitmap", some "nth")) fd
  k_Bitmap_nth : PySem.W.keepIn K (.ref (He.fAd K ("Bitmap", some "nth"))) = true
  F_Bitmap_span : ∃ fd, FunD K "span" "Bitmap.span" (defArgs s_Bitmap_span) (defBody s_Bitmap_span) (defScope s_Bitmap_span) [] [] (uA K "Bitmap" "span") fd
  k_Bitmap_span : PySem.W.keepIn K (.ref (uA K "Bitmap" "span")) = true
  F_next_end : ∃ fd, FunD K "next_end" "next_end" (defArgs s_next_end) (defBody s_next_end) (defScope s_next_end) [] [] (He.fAd K ("next_end", none)) fd
  k_next_end : PySem.W.keepIn K (.ref (He.fAd K ("next_end", none))) = true
  F_swept : ∃ fd, FunD K "swept" "swept" (defArgs s_swept) (defBody s_swept) (defScope s_swept) [] [] (He.fAd K ("swept", none)) fd
  k_swept : PySem.W.keepIn K (.ref (He.fAd K ("swept", none))) = true
  F_Bitmap_paired : ∃ fd, FunD K "paired" "Bitmap.paired" (defArgs s_Bitmap_paired) (defBody s_Bitmap_paired) (defScope s_Bitmap_paired) [] [] (He.fAd K ("Bitmap", some "paired")) fd
  k_Bitmap_paired : PySem.W.keepIn K (.ref (He.fAd K ("Bitmap", some "paired"))) = true
  F_Bitmapdd_anddd : ∃ fd, FunD K "__and__" "Bitmap.__and__" (defArgs s_Bitmapdd_anddd) (defBody s_Bitmapdd_anddd) (defScope s_Bitmapdd_anddd) [] [] (He.fAd K ("Bitmap", some "__and__")) fd
  k_Bitmapdd_anddd : PySem.W.keepIn K (.ref (He.fAd K ("Bitmap", some "__and__"))) = true
  F_Bitmap_first : ∃ fd, FunD K "first" "Bitmap.first" (defArgs s_Bitmap_first) (defBody s_Bitmap_first) (defScope s_Bitmap_first) [] [] (He.fAd K ("Bitmap", some "first")) fd
  k_Bitmap_first : PySem.W.keepIn K (.ref (He.fAd K ("Bitmap", some "first"))) = true
  F__law_is_number : ∃ fd, FunD K "_law_is_number" "_law_is_number" (defArgs s__law_is_number) (defBody s__law_is_number) (defScope s__law_is_number) [] [] (He.fAd K ("_law_is_number", none)) fd
  k__law_is_number : PySem.W.keepIn K (.ref (He.fAd K ("_law_is_number", none))) = true
  F__law_is_bitmap : ∃ fd, FunD K "_law_is_bitmap" "_law_is_bitmap" (defArgs s__law_is_bitmap) (defBody s__law_is_bitmap) (defScope s__law_is_bitmap) [] [] (He.fAd K ("_law_is_bitmap", none)) fd
  k__law_is_bitmap : PySem.W.keepIn K (.ref (He.fAd K ("_law_is_bitmap", none))) = true
  F__law_in : ∃ fd, FunD K "_law_in" "_law_in" (defArgs s__law_in) (defBody s__law_in) (defScope s__law_in) [] [] (He.fAd K ("_law_in", none)) fd
  k__law_in : PySem.W.keepIn K (.ref (He.fAd K ("_law_in", none))) = true
  F__law_is_first : ∃ fd, FunD K "_law_is_first" "_law_is_first" (defArgs s__law_is_first) (defBody s__law_is_first) (defScope s__law_is_first) [] [] (He.fAd K ("_law_is_first", none)) fd
  k__law_is_first : PySem.W.keepIn K (.ref (He.fAd K ("_law_is_first", none))) = true
  F__law_first_refused : ∃ fd, FunD K "_law_first_refused" "_law_first_refused" (defArgs s__law_first_refused) (defBody s__law_first_refused) (defScope s__law_first_refused) [] [] (He.fAd K ("_law_first_refused", none)) fd
  k__law_first_refused : PySem.W.keepIn K (.ref (He.fAd K ("_law_first_refused", none))) = true
  F_Bitmapdd_containsdd : ∃ fd, FunD K "__contains__" "Bitmap.__contains__" (defArgs s_Bitmapdd_containsdd) (defBody s_Bitmapdd_containsdd) (defScope s_Bitmapdd_containsdd) [] [] (He.fAd K ("Bitmap", some "__contains__")) fd
  k_Bitmapdd_containsdd : PySem.W.keepIn K (.ref (He.fAd K ("Bitmap", some "__contains__"))) = true
  F_Bitmap_cut : ∃ fd, FunD K "cut" "Bitmap.cut" (defArgs s_Bitmap_cut) (defBody s_Bitmap_cut) (defScope s_Bitmap_cut) [] [] (He.fAd K ("Bitmap", some "cut")) fd
  k_Bitmap_cut : PySem.W.keepIn K (.ref (He.fAd K ("Bitmap", some "cut"))) = true
  F__law_is_cut : ∃ fd, FunD K "_law_is_cut" "_law_is_cut" (defArgs s__law_is_cut) (defBody s__law_is_cut) (defScope s__law_is_cut) [] [] (He.fAd K ("_law_is_cut", none)) fd
  k__law_is_cut : PySem.W.keepIn K (.ref (He.fAd K ("_law_is_cut", none))) = true
  F_turned : ∃ fd, FunD K "turned" "turned" (defArgs s_turned) (defBody s_turned) (defScope s_turned) [] [] (He.fAd K ("turned", none)) fd
  k_turned : PySem.W.keepIn K (.ref (He.fAd K ("turned", none))) = true
  F_Bitmap_joined : ∃ fd, FunD K "joined" "Bitmap.joined" (defArgs s_Bitmap_joined) (defBody s_Bitmap_joined) (defScope s_Bitmap_joined) [] [] (He.fAd K ("Bitmap", some "joined")) fd
  k_Bitmap_joined : PySem.W.keepIn K (.ref (He.fAd K ("Bitmap", some "joined"))) = true
  F__law_is_joined : ∃ fd, FunD K "_law_is_joined" "_law_is_joined" (defArgs s__law_is_joined) (defBody s__law_is_joined) (defScope s__law_is_joined) [] [] (He.fAd K ("_law_is_joined", none)) fd
  k__law_is_joined : PySem.W.keepIn K (.ref (He.fAd K ("_law_is_joined", none))) = true
  F_Bitmapdd_eqdd : ∃ fd, FunD K "__eq__" "Bitmap.__eq__" (defArgs s_Bitmapdd_eqdd) (defBody s_Bitmapdd_eqdd) (defScope s_Bitmapdd_eqdd) [] [] (He.fAd K ("Bitmap", some "__eq__")) fd
  k_Bitmapdd_eqdd : PySem.W.keepIn K (.ref (He.fAd K ("Bitmap", some "__eq__"))) = true
  F__law_cut_refused : ∃ fd, FunD K "_law_cut_refused" "_law_cut_refused" (defArgs s__law_cut_refused) (defBody s__law_cut_refused) (defScope s__law_cut_refused) [] [] (He.fAd K ("_law_cut_refused", none)) fd
  k__law_cut_refused : PySem.W.keepIn K (.ref (He.fAd K ("_law_cut_refused", none))) = true
  F_law : ∃ fd, FunD K "law" "law" (defArgs s_law) (defBody s_law) (defScope s_law) [] [] (He.fAd K ("law", none)) fd
  k_law : PySem.W.keepIn K (.ref (He.fAd K ("law", none))) = true
  C_Bitmap : CF K "Bitmap" ["ends", "size"]
  E_Bitmapdd_initdd_0 : EmpT K (V.ref (He.dflAt ("Bitmap", some "__init__") 0 K))
  K_Bitmap : Mk K (He.ga K "Bitmap") (He.fAd K ("Bitmap", some "__init__"))
  M_Bitmap_cut : Meth K (He.ga K "Bitmap") "cut" (He.fAd K ("Bitmap", some "cut"))
  M_Bitmap_first : Meth K (He.ga K "Bitmap") "first" (He.fAd K ("Bitmap", some "first"))
  M_Bitmap_joined : Meth K (He.ga K "Bitmap") "joined" (He.fAd K ("Bitmap", some "joined"))
  M_Bitmap_nth : Meth K (He.ga K "Bitmap") "nth" (He.fAd K ("Bitmap", some "nth"))
  M_Bitmap_paired : Meth K (He.ga K "Bitmap") "paired" (He.fAd K ("Bitmap", some "paired"))
  M_Bitmap_rank : Meth K (He.ga K "Bitmap") "rank" (He.fAd K ("Bitmap", some "rank"))
  M_Bitmap_runs : Meth K (He.ga K "Bitmap") "runs" (He.fAd K ("Bitmap", some "runs"))
  M_Bitmapdd_anddd : Meth K (He.ga K "Bitmap") "__and__" (He.fAd K ("Bitmap", some "__and__"))
  M_Bitmapdd_containsdd : Meth K (He.ga K "Bitmap") "__contains__" (He.fAd K ("Bitmap", some "__contains__"))
  M_Bitmapdd_eqdd : Meth K (He.ga K "Bitmap") "__eq__" (He.fAd K ("Bitmap", some "__eq__"))
  P_Bitmap_ones : PropF K "Bitmap" "ones" (uA K "Bitmap" "ones")
  R_BadBitmap : RsF K "BadBitmap"
  R_SizesDiffer : RsF K "SizesDiffer"
  St_Bitmap_span : StF K "Bitmap" "span"
  U_AND : TupG K "AND" [V.int 0, V.int 0, V.int 0, V.int 1]
  X_BadBitmap : ExF K "BadBitmap" ["SliceError"]
  X_NoSuchRank : ExF K "NoSuchRank" ["SliceError"]
  X_NoSuchRow : ExF K "NoSuchRow" ["SliceError"]
  X_SizesDiffer : ExF K "SizesDiffer" ["SliceError"]
  X_SliceError : ExF K "SliceError" []
  Xf_NoSuchRank_number : XfF K "NoSuchRank" "number"
  Xi_NoSuchRank : ∃ fd, XiF P K "NoSuchRank" "number" "__init__" "NoSuchRank.__init__" (defArgs s_NoSuchRankdd_initdd) (defBody s_NoSuchRankdd_initdd) (defScope s_NoSuchRankdd_initdd) (He.fAd K ("NoSuchRank", some "__init__")) fd
  Xi_NoSuchRow : ∃ fd, XiF P K "NoSuchRow" "row" "__init__" "NoSuchRow.__init__" (defArgs s_NoSuchRowdd_initdd) (defBody s_NoSuchRowdd_initdd) (defScope s_NoSuchRowdd_initdd) (He.fAd K ("NoSuchRow", some "__init__")) fd
section
variable {P : Program} {w : World} {K : Frag} {mg : Str → Option Value} {base : Heap}
theorem ok__law_draw (T : T0 P K mg) : FR P w K mg base 1 (He.fAd K ("_law_draw", none)) (sp__law_draw K) := by
  obtain ⟨fd, F⟩ := T.F__law_draw
  refine mk_fn F sc__law_draw (fun vs H Q E h => by
    revert h; intro h; (repeat (first | (obtain ⟨rfl, _⟩ := h; exact rfl) | obtain ⟨_, h⟩ := h))) (fun _ _ _ _ _ _ us hl => match us, hl with | [_, _, _], _ => rfl) (t := t__law_draw K) (fun cdv A outer s H E hr => ?_) (fun vs H Q E h => pure__law_draw vs H Q E h)
  exact pss_cons (ps_if (pt_cmp (o_eq hr.units) (pe_ix ix_any (pv 1) (pe_int) (fun _ _ => rfl)) (pe_int) (nomark _)) (pss_cons (ps_set (i := 3) sc__law_draw.nd rfl (Or.inl rfl) (pe_ix ix_any (pv 1) (pe_int) (fun _ _ => rfl)))
    (pss_cons (ps_asg (pe_op o_add (pv 3) (pe_int)) (pg_sub (pv 1) (pe_int) s_list))
    (pss_cons (ps_if (pt_cmp o_ge (pv 3) (pe_cb c_len T.n_len (by decide +kernel) (pa_cons (pv 0) (pa_nil))) (nomark _)) (pss_one (ps_ret (pe_int))) (pss_nil))
    (pss_cons (ps_asg (pe_cb c_abs T.n_abs (by decide +kernel) (pa_cons (pe_ix ix_any (pv 0) (pv 3) (fun _ _ => rfl)) (pa_nil))) (pg_sub (pv 1) (pe_int) s_list))
    (pss_cons (ps_asg (pe_ct c_int T.n_int (by decide +kernel) (pa_cons (pe_cmp o_lt (pe_ix ix_any (pv 0) (pv 3) (fun _ _ => rfl)) (pe_int) (nomark _)) (pa_nil))) (pg_sub (pv 1) (pe_int) s_list))
    (pss_cons (ps_asg (pe_int) (pg_sub (pv 1) (pe_int) s_list))
    (pss_one (ps_if (pt_cmp o_ge (pe_ix ix_any (pv 1) (pe_int) (fun _ _ => rfl)) (pe_op o_pow (pe_int) (pe_int)) (nomark _)) (pss_cons (ps_asg (pe_int) (pg_sub (pv 1) (pe_int) s_list))
    (pss_one (ps_asg (pe_int) (pg_sub (pv 1) (pe_int) s_list)))) (pss_nil))))))))) (pss_nil))
    (pss_stop (pss_cons (ps_asg (pe_op o_sub (pe_ix ix_any (pv 1) (pe_int) (fun _ _ => rfl)) (pe_int)) (pg_sub (pv 1) (pe_int) s_list))
    (pss_stop (pss_cons (ps_set (i := 4) sc__law_draw.nd rfl (Or.inl rfl) (pe_ct c_int T.n_int (by decide +kernel) (pa_cons (pe_ix ix_any (pv 1) (pe_int) (fun _ _ => rfl)) (pa_nil))))
    (pss_stop (pss_cons (ps_if (pt_cmp (o_eq hr.units) (pe_ix ix_any (pv 1) (pe_int) (fun _ _ => rfl)) (pe_int) (nomark _)) (pss_cons (ps_asg (pe_op o_fdiv (pv 4) (pe_int)) (pg_sub (pv 1) (pe_int) s_list))
    (pss_cons (ps_if (pt_cmp (o_eq hr.units) (pe_ix ix_any (pv 1) (pe_int) (fun _ _ => rfl)) (pe_int) (nomark _)) (pss_one (ps_asg (pe_int) (pg_sub (pv 1) (pe_int) s_list))) (pss_nil))
    (pss_cons (ps_set (i := 5) sc__law_draw.nd rfl (Or.inl rfl) (pe_op o_mod (pe_ct c_int T.n_int (by decide +kernel) (pa_cons (pv 4) (pa_nil))) (pe_int)))
    (pss_one (ps_ret (pe_op o_mod (pe_ct c_int T.n_int (by decide +kernel) (pa_cons (pv 5) (pa_nil))) (pv 2))))))) (pss_nil))
    (pss_stop (pss_cons (ps_set (i := 6) sc__law_draw.nd rfl (Or.inl rfl) (pe_op o_mod (pe_ct c_int T.n_int (by decide +kernel) (pa_cons (pe_op o_add (pe_op o_mulA (pv 4) (pe_op o_add (pe_op o_add (pe_int) (pe_op o_mulA (pe_int) (pe_ix ix_any (pv 1) (pe_int) (fun _ _ => rfl)))) (pe_op o_mulA (pe_int) (pe_ix ix_any (pv 1) (pe_int) (fun _ _ => rfl))))) (pe_op o_mulA (pe_int) (pe_ix ix_any (pv 1) (pe_int) (fun _ _ => rfl)))) (pa_nil))) (pe_int)))
    (pss_stop (pss_cons (ps_set (i := 6) sc__law_draw.nd rfl (Or.inl rfl) (pe_op o_mod (pe_ct c_int T.n_int (by decide +kernel) (pa_cons (pe_op o_add (pe_op o_mulA (pv 6) (pv 6)) (pv 4)) (pa_nil))) (pe_int)))
    (pss_stop (pss_cons (ps_set (i := 6) sc__law_draw.nd rfl (Or.inl rfl) (pe_op o_mod (pe_ct c_int T.n_int (by decide +kernel) (pa_cons (pe_op o_mulA (pv 6) (pv 6)) (pa_nil))) (pe_int)))
    (pss_stop (pss_one (ps_ret (pe_op o_mod (pe_ct c_int T.n_int (by decide +kernel) (pa_cons (pv 6) (pa_nil))) (pv 2)))))))))))))))))
theorem ok__law_wide (T : T0 P K mg) : FR P w K mg base 2 (He.fAd K ("_law_wide", none)) (sp__law_wide K) := by
  obtain ⟨fd, F⟩ := T.F__law_wide
  have G__law_draw := ok__law_draw (P := P) (w := w) (base := base) T
  refine mk_fn F sc__law_wide (fun vs H Q E h => by
    revert h; intro h; (repeat (first | (obtain ⟨rfl, _⟩ := h; exact rfl) | obtain ⟨_, h⟩ := h))) (fun _ _ _ _ _ _ us hl => match us, hl with | [_, _, _], _ => rfl) (t := t__law_wide K) (fun cdv A outer s H E hr => ?_) (fun vs H Q E h => pure__law_wide vs H Q E h)
  exact pss_cons (ps_set (i := 3) sc__law_wide.nd rfl (Or.inl rfl) (pe_int))
    (pss_stop (pss_cons (ps_for ownD rfl (pi_rng (by rfl) T.n_range (pa_cons (pe_int) (pa_nil))) (pg_name (i := 4) sc__law_wide.nd rfl (Or.inl rfl)) (pss_one (ps_set (i := 3) sc__law_wide.nd rfl (Or.inl rfl) (pe_op o_add (pe_op o_mulA (pv 3) (pe_int)) (pe_call (G__law_draw) (hr.mono (by decide)) T.g__law_draw T.k__law_draw passD (pa_cons (pv 0) (pa_cons (pv 1) (pa_cons (pe_int) (pa_nil)))))))))
    (pss_stop (pss_one (ps_ret (pe_op o_mod (pe_ct c_int T.n_int (by decide +kernel) (pa_cons (pv 3) (pa_nil))) (pv 2)))))))
theorem ok__law_size (T : T0 P K mg) : FR P w K mg base 3 (He.fAd K ("_law_size", none)) (sp__law_size K) := by
  obtain ⟨fd, F⟩ := T.F__law_size
  have G__law_draw := ok__law_draw (P := P) (w := w) (base := base) T
  have G__law_wide := ok__law_wide (P := P) (w := w) (base := base) T
  refine mk_fn F sc__law_size (fun vs H Q E h => by
    revert h; intro h; (repeat (first | (obtain ⟨rfl, _⟩ := h; exact rfl) | obtain ⟨_, h⟩ := h))) (fun _ _ _ _ _ _ us hl => match us, hl with | [_, _], _ => rfl) (t := t__law_size K) (fun cdv A outer s H E hr => ?_) (fun vs H Q E h => pure__law_size vs H Q E h)
  exact pss_cons (ps_set (i := 2) sc__law_size.nd rfl (Or.inl rfl) (pe_call (G__law_draw) (hr.mono (by decide)) T.g__law_draw T.k__law_draw passD (pa_cons (pv 0) (pa_cons (pv 1) (pa_cons (pe_int) (pa_nil))))))
    (pss_stop (pss_cons (ps_if (pt_cmp (o_eq hr.units) (pv 2) (pe_int) (nomark _)) (pss_one (ps_ret (pe_call (G__law_draw) (hr.mono (by decide)) T.g__law_draw T.k__law_draw passD (pa_cons (pv 0) (pa_cons (pv 1) (pa_cons (pe_int) (pa_nil))))))) (pss_nil))
    (pss_stop (pss_cons (ps_if (pt_cmp (o_eq hr.units) (pv 2) (pe_int) (nomark _)) (pss_one (ps_ret (pe_call (G__law_draw) (hr.mono (by decide)) T.g__law_draw T.k__law_draw passD (pa_cons (pv 0) (pa_cons (pv 1) (pa_cons (pe_int) (pa_nil))))))) (pss_nil))
    (pss_stop (pss_cons (ps_if (pt_cmp (o_eq hr.units) (pv 2) (pe_int) (nomark _)) (pss_one (ps_ret (pe_call (G__law_draw) (hr.mono (by decide)) T.g__law_draw T.k__law_draw passD (pa_cons (pv 0) (pa_cons (pv 1) (pa_cons (pe_int) (pa_nil))))))) (pss_nil))
    (pss_stop (pss_cons (ps_if (pt_cmp (o_eq hr.units) (pv 2) (pe_int) (nomark _)) (pss_one (ps_ret (pe_op o_sub (pe_op o_pow (pe_int) (pe_int)) (pe_call (G__law_draw) (hr.mono (by decide)) T.g__law_draw T.k__law_draw passD (pa_cons (pv 0) (pa_cons (pv 1) (pa_cons (pe_int) (pa_nil)))))))) (pss_nil))
    (pss_stop (pss_one (ps_ret (pe_op o_add (pe_call (G__law_wide) (hr.mono (by decide)) T.g__law_wide T.k__law_wide passD (pa_cons (pv 0) (pa_cons (pv 1) (pa_cons (pe_op o_pow (pe_int) (pe_int)) (pa_nil))))) (pe_int)))))))))))))
theorem ok__law_ends (T : T0 P K mg) : FR P w K mg base 3 (He.fAd K ("_law_ends", none)) (sp__law_ends K) := by
  obtain ⟨fd, F⟩ := T.F__law_ends
  have G__law_draw := ok__law_draw (P := P) (w := w) (base := base) T
  have G__law_wide := ok__law_wide (P := P) (w := w) (base := base) T
  refine mk_fn F sc__law_ends (fun vs H Q E h => by
    revert h; intro h; (repeat (first | (obtain ⟨rfl, _⟩ := h; exact rfl) | obtain ⟨_, h⟩ := h))) (fun _ _ _ _ _ _ us hl => match us, hl with | [_, _, _, _], _ => rfl) (t := t__law_ends K) (fun cdv A outer s H E hr => ?_) (fun vs H Q E h => pure__law_ends vs H Q E h)
  exact pss_cons (ps_set (i := 4) sc__law_ends.nd rfl (Or.inl rfl) (pe_lst (pa_nil)))
    (pss_stop (pss_cons (ps_set (i := 5) sc__law_ends.nd rfl (Or.inl rfl) (pe_int))
    (pss_stop (pss_cons (ps_for ownD rfl (pi_rng (by rfl) T.n_range (pa_cons (pe_call (G__law_draw) (hr.mono (by decide)) T.g__law_draw T.k__law_draw passD (pa_cons (pv 0) (pa_cons (pv 1) (pa_cons (pe_op o_add (pv 3) (pe_int)) (pa_nil))))) (pa_nil))) (pg_name (i := 6) sc__law_ends.nd rfl (Or.inl rfl)) (pss_cons (ps_set (i := 7) sc__law_ends.nd rfl (Or.inl rfl) (pe_call (G__law_draw) (hr.mono (by decide)) T.g__law_draw T.k__law_draw passD (pa_cons (pv 0) (pa_cons (pv 1) (pa_cons (pe_int) (pa_nil))))))
    (pss_stop (pss_cons (ps_if (pt_cmp (o_eq hr.units) (pv 7) (pe_int) (nomark _)) (pss_one (ps_set (i := 5) sc__law_ends.nd rfl (Or.inl rfl) (pe_op o_add (pv 5) (pe_call (G__law_draw) (hr.mono (by decide)) T.g__law_draw T.k__law_draw passD (pa_cons (pv 0) (pa_cons (pv 1) (pa_cons (pe_int) (pa_nil)))))))) (pss_nil))
    (pss_stop (pss_cons (ps_if (pt_cmp (o_eq hr.units) (pv 7) (pe_int) (nomark _)) (pss_one (ps_set (i := 5) sc__law_ends.nd rfl (Or.inl rfl) (pe_op o_add (pv 5) (pe_call (G__law_wide) (hr.mono (by decide)) T.g__law_wide T.k__law_wide passD (pa_cons (pv 0) (pa_cons (pv 1) (pa_cons (pe_op o_add (pe_op o_fdiv (pv 2) (pe_int)) (pe_int)) (pa_nil)))))))) (pss_nil))
    (pss_stop (pss_cons (ps_if (pt_cmp (o_eq hr.units) (pv 7) (pe_int) (nomark _)) (pss_one (ps_set (i := 5) sc__law_ends.nd rfl (Or.inl rfl) (pe_op o_add (pv 5) (pe_call (G__law_wide) (hr.mono (by decide)) T.g__law_wide T.k__law_wide passD (pa_cons (pv 0) (pa_cons (pv 1) (pa_cons (pe_op o_add (pv 2) (pe_int)) (pa_nil)))))))) (pss_nil))
    (pss_stop (pss_cons (ps_if (pt_cmp o_lt (pv 5) (pv 2) (nomark _)) (pss_one (ps_expr (pe_ml PySem.F.slot_list_append PySem.F.type_list_append m_app (pv 4) (pa_cons (pv 5) (pa_nil))))) (pss_nil))
    (pss_stop (pss_one (ps_set (i := 5) sc__law_ends.nd rfl (Or.inl rfl) (pe_op o_add (pv 5) (pe_int)))))))))))))))
    (pss_stop (pss_one (ps_ret (pv 4))))))))
theorem okd_Bitmapdd_initdd (T : T0 P K mg) {fd : FuncData} (F : FunD K "__init__" "Bitmap.__init__" (defArgs s_Bitmapdd_initdd) (defBody s_Bitmapdd_initdd) (defScope s_Bitmapdd_initdd) [V.ref (He.dflAt ("Bitmap", some "__init__") 0 K)] [] (He.fAd K ("Bitmap", some "__init__")) fd) {ex : List V} (hb : ∃ ds, Vals ex ds ∧ Binds K fd ["self", "size", "ends"] ds) : FR P w K mg base 1 (He.fAd K ("Bitmap", some "__init__")) (spD (sp_Bitmapdd_initdd K) ex) := by
  refine mk_fnD F sc_Bitmapdd_initdd (fun vs H Q E h => by
    revert h; intro h; (repeat (first | (obtain ⟨rfl, _⟩ := h; exact rfl) | obtain ⟨_, h⟩ := h))) hb (t := t_Bitmapdd_initdd K) (fun cdv A outer s H E hr => ?_) (fun vs H Q E h => pure_Bitmapdd_initdd vs H Q E h)
  exact pss_cons (ps_set (i := 3) sc_Bitmapdd_initdd.nd rfl (Or.inl rfl) (pe_un u_neg (pe_int)))
    (pss_stop (pss_cons (ps_for ownD rfl (pi_seq (pv 2)) (pg_name (i := 4) sc_Bitmapdd_initdd.nd rfl (Or.inl rfl)) (pss_cons (ps_if (pt_not (pt_chain o_lt o_lt (pv 3) (pv 4) (pv 1))) (pss_one (ps_giv T.X_BadBitmap (ps_rs takesD T.R_BadBitmap T.g_BadBitmap))) (pss_nil))
    (pss_stop (pss_one (ps_set (i := 3) sc_Bitmapdd_initdd.nd rfl (Or.inl rfl) (pv 4))))))
    (pss_stop (pss_cons (ps_if (pt_cmp o_lt (pv 1) (pe_int) (nomark _)) (pss_one (ps_giv T.X_BadBitmap (ps_rs takesD T.R_BadBitmap T.g_BadBitmap))) (pss_nil))
    (pss_stop (pss_cons (ps_sto (pv 1) (pv 0))
    (pss_stop (pss_one (ps_sto (pe_ct c_tuple T.n_tuple (by decide +kernel) (pa_cons (pv 2) (pa_nil))) (pv 0))))))))))
theorem ok_Bitmapdd_initdd (T : T0 P K mg) : FR P w K mg base 1 (He.fAd K ("Bitmap", some "__init__")) (sp_Bitmapdd_initdd K) := by
  obtain ⟨fd, F⟩ := T.F_Bitmapdd_initdd
  have hb := FunD.binds1 (ps := ["self", "size", "ends"]) F 3 1 (List.cons_ne_nil _ _) rfl fun T kV doc pm an cdv ct us its l1 l2 => match us, its, l1, l2 with | [_, _, _], [_], _, _ => ⟨_, rfl, rfl⟩
  exact spD_nil (okd_Bitmapdd_initdd (P := P) (w := w) (base := base) T F hb)
theorem ok_Bitmapdd_initdd_2 (T : T0 P K mg) : FR P w K mg base 1 (He.fAd K ("Bitmap", some "__init__")) (spD (sp_Bitmapdd_initdd K) [V.ref (He.dflAt ("Bitmap", some "__init__") 0 K)]) := by
  obtain ⟨fd, F⟩ := T.F_Bitmapdd_initdd
  have hb := FunD.binds1 (ps := ["self", "size", "ends"]) F 2 0 (List.cons_ne_nil _ _) rfl fun T kV doc pm an cdv ct us its l1 l2 => match us, its, l1, l2 with | [_, _], [_], _, _ => ⟨_, rfl, rfl⟩
  exact  (okd_Bitmapdd_initdd (P := P) (w := w) (base := base) T F hb)
theorem ok__law_runs (T : T0 P K mg) : FR P w K mg base 1 (He.fAd K ("_law_runs", none)) (sp__law_runs K) := by
  obtain ⟨fd, F⟩ := T.F__law_runs
  refine mk_fn F sc__law_runs (fun vs H Q E h => by
    revert h; intro h; (repeat (first | (obtain ⟨rfl, _⟩ := h; exact rfl) | obtain ⟨_, h⟩ := h))) (fun _ _ _ _ _ _ us hl => match us, hl with | [_, _], _ => rfl) (t := t__law_runs K) (fun cdv A outer s H E hr => ?_) (fun vs H Q E h => pure__law_runs vs H Q E h)
  exact pss_cons (ps_set (i := 2) sc__law_runs.nd rfl (Or.inl rfl) (pe_lst (pa_nil)))
    (pss_stop (pss_cons (ps_for ownD rfl (pi_rngS (by rfl) T.n_range (pa_cons (pe_int) (pa_cons (pe_cb c_len T.n_len (by decide +kernel) (pa_cons (pv 1) (pa_nil))) (pa_cons (pe_int) (pa_nil))))) (pg_name (i := 3) sc__law_runs.nd rfl (Or.inl rfl)) (pss_cons (ps_set (i := 4) sc__law_runs.nd rfl (Or.inl rfl) (pv 0))
    (pss_stop (pss_cons (ps_if (pt_cmp o_lt (pe_op o_add (pv 3) (pe_int)) (pe_cb c_len T.n_len (by decide +kernel) (pa_cons (pv 1) (pa_nil))) (nomark _)) (pss_one (ps_set (i := 4) sc__law_runs.nd rfl (Or.inl rfl) (pe_ix ix_any (pv 1) (pe_op o_add (pv 3) (pe_int)) (fun _ _ => rfl)))) (pss_nil))
    (pss_stop (pss_one (ps_expr (pe_ml PySem.F.slot_list_append PySem.F.type_list_append m_app (pv 2) (pa_cons (pe_tup (pa_cons (pe_ix ix_any (pv 1) (pv 3) (fun _ _ => rfl)) (pa_cons (pv 4) (pa_nil)))) (pa_nil))))))))))
    (pss_stop (pss_one (ps_ret (pv 2))))))
theorem ok__law_below (T : T0 P K mg) : FR P w K mg base 1 (He.fAd K ("_law_below", none)) (sp__law_below K) := by
  obtain ⟨fd, F⟩ := T.F__law_below
  refine mk_fn F sc__law_below (fun vs H Q E h => by
    revert h; intro h; (repeat (first | (obtain ⟨rfl, _⟩ := h; exact rfl) | obtain ⟨_, h⟩ := h))) (fun _ _ _ _ _ _ us hl => match us, hl with | [_, _], _ => rfl) (t := t__law_below K) (fun cdv A outer s H E hr => ?_) (fun vs H Q E h => pure__law_below vs H Q E h)
  exact pss_cons (ps_set (i := 2) sc__law_below.nd rfl (Or.inl rfl) (pe_int))
    (pss_stop (pss_cons (ps_for ownD rfl (pi_seq (pv 0)) (pg_name (i := 3) sc__law_below.nd rfl (Or.inl rfl)) (pss_one (ps_if (pt_cmp o_lt (pe_ix ix_any (pv 3) (pe_int) (fun _ _ => rfl)) (pv 1) (nomark _)) (pss_one (ps_set (i := 2) sc__law_below.nd rfl (Or.inl rfl) (pe_op o_sub (pe_op o_add (pv 2) (pe_cb (c_min2 rfl) T.n_min (by decide +kernel) (pa_cons (pe_ix ix_any (pv 3) (pe_int) (fun _ _ => rfl)) (pa_cons (pv 1) (pa_nil))))) (pe_ix ix_any (pv 3) (pe_int) (fun _ _ => rfl))))) (pss_nil))))
    (pss_stop (pss_one (ps_ret (pv 2))))))
theorem ok_Bitmap_rank (T : T0 P K mg) : FR P w K mg base 2 (He.fAd K ("Bitmap", some "rank")) (sp_Bitmap_rank K) := by
  obtain ⟨fd, F⟩ := T.F_Bitmap_rank
  refine mk_fn F sc_Bitmap_rank (fun vs H Q E h => by
    revert h; intro h; (repeat (first | (obtain ⟨rfl, _⟩ := h; exact rfl) | obtain ⟨_, h⟩ := h))) (fun _ _ _ _ _ _ us hl => match us, hl with | [_, _], _ => rfl) (t := t_Bitmap_rank K) (fun cdv A outer s H E hr => ?_) (fun vs H Q E h => pure_Bitmap_rank vs H Q E h)
  exact pss_cons (ps_if (pt_not (pt_chain o_le o_le (pe_int) (pv 1) (pe_at (pv 0)))) (pss_one (ps_giv T.X_NoSuchRow (ps_rsI takesD T.Xi_NoSuchRow T.n_super T.g_NoSuchRow (hr.mono (by decide)) (pv 1) (fun _ _ _ _ _ _ _ us hl => match us, hl with | [_, _], _ => rfl) rfl ⟨_, rfl, rfl⟩ rfl rfl rfl (by decide +kernel) rfl rfl rfl rfl (by decide) (by decide) (fun _ => rfl) (fun _ => rfl) (fun _ => rfl)))) (pss_nil))
    (pss_stop (pss_cons (ps_set (i := 2) sc_Bitmap_rank.nd rfl (Or.inl rfl) (pe_int))
    (pss_stop (pss_cons (ps_for ownD rfl (pi_en T.n_enumerate (pe_at (pv 0))) (pg_tup rfl (pgs_cons (pg_name (i := 3) sc_Bitmap_rank.nd rfl (Or.inl rfl)) (pgs_cons (pg_name (i := 4) sc_Bitmap_rank.nd rfl (Or.inl rfl)) (pgs_nil)))) (pss_one (ps_if (pt_cmp o_lt (pv 4) (pv 1) (nomark _)) (pss_one (ps_set (i := 2) sc_Bitmap_rank.nd rfl (Or.inl rfl) (pe_op o_add (pv 2) (pe_op o_mulA (pe_op o_sub (pv 1) (pv 4)) (pe_op o_sub (pe_int) (pe_op o_mulA (pe_int) (pe_op o_and (pv 3) (pe_int)))))))) (pss_nil))))
    (pss_stop (pss_one (ps_ret (pv 2))))))))
theorem ok_Bitmap_ones (T : T0 P K mg) : FR P w K mg base 3 (uA K "Bitmap" "ones") (sp_Bitmap_ones K) := by
  obtain ⟨fd, F⟩ := T.F_Bitmap_ones
  have G_Bitmap_rank := ok_Bitmap_rank (P := P) (w := w) (base := base) T
  refine mk_fn F sc_Bitmap_ones (fun vs H Q E h => by
    revert h; intro h; (repeat (first | (obtain ⟨rfl, _⟩ := h; exact rfl) | obtain ⟨_, h⟩ := h))) (fun _ _ _ _ _ _ us hl => match us, hl with | [_], _ => rfl) (t := t_Bitmap_ones K) (fun cdv A outer s H E hr => ?_) (fun vs H Q E h => pure_Bitmap_ones vs H Q E h)
  exact pss_one (ps_ret (pe_meth T.C_Bitmap.sc T.M_Bitmap_rank G_Bitmap_rank (hr.mono (by decide)) passD (pv 0) (pa_cons (pe_at (pv 0)) (pa_nil))))
theorem okF_Bitmap_runs (T : T0 P K mg) : GFF P w K mg base 1 (He.fAd K ("Bitmap", some "runs")) (spF_Bitmap_runs K) := by
  obtain ⟨fd, F⟩ := T.F_Bitmap_runs
  refine gff_of F sc_Bitmap_runs (by decide +kernel) (fun vs H Q E h => by
    revert h; intro h; (repeat (first | (obtain ⟨rfl, _⟩ := h; exact rfl) | obtain ⟨_, h⟩ := h))) (fun _ _ _ _ _ _ us hl => match us, hl with | [_], _ => rfl) (t := tF_Bitmap_runs K E0) (fun cdv A outer s H pn Z Kc hr al => ?_) (fun vs H Kc Q h => pureF_Bitmap_runs vs H Kc Q h)
  exact gssf_cons (gsf_ps al (fun b => ps_set (i := 1) sc_Bitmap_runs.nd rfl (Or.inl rfl) (pe_non)))
    (gssf_stop (gssf_cons (gsf_for al rfl (fun b => pi_seq (pe_at (pv 0))) (fun b => pg_name (i := 2) sc_Bitmap_runs.nd rfl (Or.inl rfl)) (gssf_one (gsf_if al (fun b => pt_cmp o_isN (pv 1) (pe_non) (nomark _)) (gssf_one (gsf_ps al (fun b => ps_set (i := 1) sc_Bitmap_runs.nd rfl (Or.inl rfl) (pv 2)))) (gssf_cons (gsf_yield al (fun b => pe_tup (pa_cons (pv 1) (pa_cons (pv 2) (pa_nil)))))
    (gssf_one (gsf_ps al (fun b => ps_set (i := 1) sc_Bitmap_runs.nd rfl (Or.inl rfl) (pe_non))))))))
    (gssf_stop (gssf_one (gsf_if al (fun b => pt_cmp o_notN (pv 1) (pe_non) (nomark _)) (gssf_one (gsf_yield al (fun b => pe_tup (pa_cons (pv 1) (pa_cons (pe_at (pv 0)) (pa_nil)))))) (gssf_nil))))))
theorem ok_Bitmap_nth (T : T0 P K mg) : FR P w K mg base 5 (He.fAd K ("Bitmap", some "nth")) (sp_Bitmap_nth K) := by
  obtain ⟨fd, F⟩ := T.F_Bitmap_nth
  have GF_Bitmap_runs := okF_Bitmap_runs (P := P) (w := w) (base := base) T
  have G_Bitmap_ones := ok_Bitmap_ones (P := P) (w := w) (base := base) T
  refine mk_fn F sc_Bitmap_nth (fun vs H Q E h => by
    revert h; intro h; (repeat (first | (obtain ⟨rfl, _⟩ := h; exact rfl) | obtain ⟨_, h⟩ := h))) (fun _ _ _ _ _ _ us hl => match us, hl with | [_, _], _ => rfl) (t := t_Bitmap_nth K) (fun cdv A outer s H E hr => ?_) (fun vs H Q E h => pure_Bitmap_nth vs H Q E h)
  exact pss_cons (ps_if (pt_not (pt_chain o_le o_lt (pe_int) (pv 1) (pe_prop T.C_Bitmap.sc T.P_Bitmap_ones G_Bitmap_ones (hr.mono (by decide)) (pv 0)))) (pss_one (ps_giv T.X_NoSuchRank (ps_rsI takesD T.Xi_NoSuchRank T.n_super T.g_NoSuchRank (hr.mono (by decide)) (pv 1) (fun _ _ _ _ _ _ _ us hl => match us, hl with | [_, _], _ => rfl) rfl ⟨_, rfl, rfl⟩ rfl rfl rfl (by decide +kernel) rfl rfl rfl rfl (by decide) (by decide) (fun _ => rfl) (fun _ => rfl) (fun _ => rfl)))) (pss_nil))
    (pss_stop (pss_cons (ps_set (i := 2) sc_Bitmap_nth.nd rfl (Or.inl rfl) (pv 1))
    (pss_stop (pss_cons (ps_set (i := 3) sc_Bitmap_nth.nd rfl (Or.inl rfl) (pe_int))
    (pss_stop (pss_cons (ps_forF ownD rfl (pgenF_meth0 T.C_Bitmap.sc T.M_Bitmap_runs GF_Bitmap_runs (hr.mono (by decide)) (pv 0)) (hr.mono (by decide)) (pgg_tup rfl (pgsg_cons (pgg_name (i := 4) sc_Bitmap_nth.nd rfl (Or.inl rfl)) (pgsg_cons (pgg_name (i := 5) sc_Bitmap_nth.nd rfl (Or.inl rfl)) (pgsg_nil)))) (pssg_cons (psg_if (ptg_chain og_le og_lt (peg_int) (pvg 2) (peg_op og_sub (pvg 5) (pvg 4))) (pssg_one (psg_set (i := 3) sc_Bitmap_nth.nd rfl (Or.inl rfl) (peg_op (og_add rfl) (pvg 4) (pvg 2)))) (pssg_nil))
    (pssg_stop (pssg_one (psg_set (i := 2) sc_Bitmap_nth.nd rfl (Or.inl rfl) (peg_op og_sub (pvg 2) (peg_op og_sub (pvg 5) (pvg 4))))))) (fun x => cells_no (by decide +kernel)))
    (pss_stop (pss_one (ps_ret (pv 3))))))))))
theorem ok_Bitmap_span (T : T0 P K mg) : FR P w K mg base 3 (uA K "Bitmap" "span") (sp_Bitmap_span K) := by
  obtain ⟨fd, F⟩ := T.F_Bitmap_span
  have G_Bitmapdd_initdd := ok_Bitmapdd_initdd (P := P) (w := w) (base := base) T
  have G_Bitmapdd_initdd_2 := ok_Bitmapdd_initdd_2 (P := P) (w := w) (base := base) T
  refine mk_fn F sc_Bitmap_span (fun vs H Q E h => by
    revert h; intro h; (repeat (first | (obtain ⟨rfl, _⟩ := h; exact rfl) | obtain ⟨_, h⟩ := h))) (fun _ _ _ _ _ _ us hl => match us, hl with | [_, _, _], _ => rfl) (t := t_Bitmap_span K) (fun cdv A outer s H E hr => ?_) (fun vs H Q E h => pure_Bitmap_span vs H Q E h)
  exact pss_cons (ps_if (pt_not (pt_chain3 o_le o_le o_le (pe_int) (pv 1) (pv 2) (pv 0))) (pss_one (ps_giv T.X_BadBitmap (ps_rs takesD T.R_BadBitmap T.g_BadBitmap))) (pss_nil))
    (pss_stop (pss_cons (ps_if (pt_cmp (o_eq hr.units) (pv 1) (pv 2) (nomark _)) (pss_one (ps_ret (pe_giv T.C_Bitmap (pe_giv T.E_Bitmapdd_initdd_0 (pe_mk T.K_Bitmap G_Bitmapdd_initdd_2 (hr.mono (by decide)) T.g_Bitmap passD (pa_cons (pv 0) (pa_nil))))))) (pss_nil))
    (pss_stop (pss_cons (ps_if (pt_cmp (o_eq hr.units) (pv 2) (pv 0) (nomark _)) (pss_one (ps_ret (pe_giv T.C_Bitmap (pe_mk T.K_Bitmap G_Bitmapdd_initdd (hr.mono (by decide)) T.g_Bitmap passD (pa_cons (pv 0) (pa_cons (pe_tup (pa_cons (pv 1) (pa_nil))) (pa_nil))))))) (pss_nil))
    (pss_stop (pss_one (ps_ret (pe_giv T.C_Bitmap (pe_mk T.K_Bitmap G_Bitmapdd_initdd (hr.mono (by decide)) T.g_Bitmap passD (pa_cons (pv 0) (pa_cons (pe_tup (pa_cons (pv 1) (pa_cons (pv 2) (pa_nil)))) (pa_nil))))))))))))
theorem ok_next_end (T : T0 P K mg) : FR P w K mg base 1 (He.fAd K ("next_end", none)) (sp_next_end K) := by
  obtain ⟨fd, F⟩ := T.F_next_end
  refine mk_fn F sc_next_end (fun vs H Q E h => by
    revert h; intro h; (repeat (first | (obtain ⟨rfl, _⟩ := h; exact rfl) | obtain ⟨_, h⟩ := h))) (fun _ _ _ _ _ _ us hl => match us, hl with | [_, _, _, _], _ => rfl) (t := t_next_end K) (fun cdv A outer s H E hr => ?_) (fun vs H Q E h => pure_next_end vs H Q E h)
  exact pss_cons (ps_if (PW.pt (pw_or (pt_cmp (o_eq hr.units) (pv 3) (pe_cb c_len T.n_len (by decide +kernel) (pa_cons (pv 2) (pa_nil))) (nomark _)) (pw_or1 (PW.pt (pw_and (pt_cmp o_lt (pv 1) (pe_cb c_len T.n_len (by decide +kernel) (pa_cons (pv 0) (pa_nil))) (nomark _)) (pw_and1 (pt_cmp o_lt (pe_ix ix_any (pv 0) (pv 1) (fun _ _ => rfl)) (pe_ix ix_any (pv 2) (pv 3) (fun _ _ => rfl)) (nomark _)))))))) (pss_one (ps_ret (pe_ix ix_any (pv 0) (pv 1) (fun _ _ => rfl)))) (pss_nil))
    (pss_stop (pss_one (ps_ret (pe_ix ix_any (pv 2) (pv 3) (fun _ _ => rfl)))))
theorem ok_swept (T : T0 P K mg) : FR P w K mg base 2 (He.fAd K ("swept", none)) (sp_swept K) := by
  obtain ⟨fd, F⟩ := T.F_swept
  have G_next_end := ok_next_end (P := P) (w := w) (base := base) T
  refine mk_fn F sc_swept (fun vs H Q E h => by
    revert h; intro h; (repeat (first | (obtain ⟨rfl, _⟩ := h; exact rfl) | obtain ⟨_, h⟩ := h))) (fun _ _ _ _ _ _ us hl => match us, hl with | [_, _, _], _ => rfl) (t := t_swept K) (fun cdv A outer s H E hr => ?_) (fun vs H Q E h => pure_swept vs H Q E h)
  exact pss_cons (ps_set (i := 3) sc_swept.nd rfl (Or.inl rfl) (pe_lst (pa_nil)))
    (pss_stop (pss_cons (ps_asg2 (pe_int) (pg_name (i := 4) sc_swept.nd rfl (Or.inl rfl)) (pg_name (i := 5) sc_swept.nd rfl (Or.inl rfl)))
    (pss_stop (pss_cons (ps_asg3 (pe_int) (pg_name (i := 6) sc_swept.nd rfl (Or.inl rfl)) (pg_name (i := 7) sc_swept.nd rfl (Or.inl rfl)) (pg_name (i := 8) sc_swept.nd rfl (Or.inl rfl)))
    (pss_stop (pss_cons (ps_while ownD (PW.pt (pw_or (pt_cmp o_lt (pv 4) (pe_cb c_len T.n_len (by decide +kernel) (pa_cons (pv 0) (pa_nil))) (nomark _)) (pw_or1 (pt_cmp o_lt (pv 5) (pe_cb c_len T.n_len (by decide +kernel) (pa_cons (pv 1) (pa_nil))) (nomark _))))) (pss_cons (ps_set (i := 9) sc_swept.nd rfl (Or.inl rfl) (pe_call (G_next_end) (hr.mono (by decide)) T.g_next_end T.k_next_end passD (pa_cons (pv 0) (pa_cons (pv 4) (pa_cons (pv 1) (pa_cons (pv 5) (pa_nil)))))))
    (pss_stop (pss_cons (ps_if (PW.pt (pw_and (pt_cmp o_lt (pv 4) (pe_cb c_len T.n_len (by decide +kernel) (pa_cons (pv 0) (pa_nil))) (nomark _)) (pw_and1 (pt_cmp (o_eq hr.units) (pe_ix ix_any (pv 0) (pv 4) (fun _ _ => rfl)) (pv 9) (nomark _))))) (pss_cons (ps_set (i := 6) sc_swept.nd rfl (Or.inl rfl) (pe_op o_sub (pe_int) (pv 6)))
    (pss_one (ps_set (i := 4) sc_swept.nd rfl (Or.inl rfl) (pe_op o_add (pv 4) (pe_int))))) (pss_nil))
    (pss_stop (pss_cons (ps_if (PW.pt (pw_and (pt_cmp o_lt (pv 5) (pe_cb c_len T.n_len (by decide +kernel) (pa_cons (pv 1) (pa_nil))) (nomark _)) (pw_and1 (pt_cmp (o_eq hr.units) (pe_ix ix_any (pv 1) (pv 5) (fun _ _ => rfl)) (pv 9) (nomark _))))) (pss_cons (ps_set (i := 7) sc_swept.nd rfl (Or.inl rfl) (pe_op o_sub (pe_int) (pv 7)))
    (pss_one (ps_set (i := 5) sc_swept.nd rfl (Or.inl rfl) (pe_op o_add (pv 5) (pe_int))))) (pss_nil))
    (pss_stop (pss_one (ps_if (pt_cmp (o_ne hr.units) (pe_ix ix_any (pv 2) (pe_op o_add (pe_op o_mulA (pe_int) (pv 6)) (pv 7)) (fun _ _ => rfl)) (pv 8) (nomark _)) (pss_cons (ps_set (i := 8) sc_swept.nd rfl (Or.inl rfl) (pe_op o_sub (pe_int) (pv 8)))
    (pss_one (ps_expr (pe_ml PySem.F.slot_list_append PySem.F.type_list_append m_app (pv 3) (pa_cons (pv 9) (pa_nil)))))) (pss_nil))))))))))
    (pss_stop (pss_one (ps_ret (pe_ct c_tuple T.n_tuple (by decide +kernel) (pa_cons (pv 3) (pa_nil))))))))))))
theorem ok_Bitmap_paired (T : T0 P K mg) : FR P w K mg base 3 (He.fAd K ("Bitmap", some "paired")) (sp_Bitmap_paired K) := by
  obtain ⟨fd, F⟩ := T.F_Bitmap_paired
  have G_Bitmapdd_initdd := ok_Bitmapdd_initdd (P := P) (w := w) (base := base) T
  have G_swept := ok_swept (P := P) (w := w) (base := base) T
  refine mk_fn F sc_Bitmap_paired (fun vs H Q E h => by
    revert h; intro h; (repeat (first | (obtain ⟨rfl, _⟩ := h; exact rfl) | obtain ⟨_, h⟩ := h))) (fun _ _ _ _ _ _ us hl => match us, hl with | [_, _, _], _ => rfl) (t := t_Bitmap_paired K) (fun cdv A outer s H E hr => ?_) (fun vs H Q E h => pure_Bitmap_paired vs H Q E h)
  exact pss_cons (ps_if (pt_cmp (o_ne hr.units) (pe_at (pv 0)) (pe_at (pv 1)) (nomark _)) (pss_one (ps_giv T.X_SizesDiffer (ps_rs takesD T.R_SizesDiffer T.g_SizesDiffer))) (pss_nil))
    (pss_stop (pss_one (ps_ret (pe_giv T.C_Bitmap (pe_mk T.K_Bitmap G_Bitmapdd_initdd (hr.mono (by decide)) T.g_Bitmap passD (pa_cons (pe_at (pv 0)) (pa_cons (pe_call (G_swept) (hr.mono (by decide)) T.g_swept T.k_swept passD (pa_cons (pe_at (pv 0)) (pa_cons (pe_at (pv 1)) (pa_cons (pv 2) (pa_nil))))) (pa_nil))))))))
theorem ok_Bitmapdd_anddd (T : T0 P K mg) : FR P w K mg base 4 (He.fAd K ("Bitmap", some "__and__")) (sp_Bitmapdd_anddd K) := by
  obtain ⟨fd, F⟩ := T.F_Bitmapdd_anddd
  have G_Bitmap_paired := ok_Bitmap_paired (P := P) (w := w) (base := base) T
  refine mk_fn F sc_Bitmapdd_anddd (fun vs H Q E h => by
    revert h; intro h; (repeat (first | (obtain ⟨rfl, _⟩ := h; exact rfl) | obtain ⟨_, h⟩ := h))) (fun _ _ _ _ _ _ us hl => match us, hl with | [_, _], _ => rfl) (t := t_Bitmapdd_anddd K) (fun cdv A outer s H E hr => ?_) (fun vs H Q E h => pure_Bitmapdd_anddd vs H Q E h)
  exact pss_one (ps_ret (pe_meth T.C_Bitmap.sc T.M_Bitmap_paired G_Bitmap_paired (hr.mono (by decide)) passD (pv 0) (pa_cons (pv 1) (pa_cons (pe_giv T.U_AND (pe_glob (by rfl) T.g_AND rfl)) (pa_nil)))))
theorem ok_Bitmap_first (T : T0 P K mg) : FR P w K mg base 6 (He.fAd K ("Bitmap", some "first")) (sp_Bitmap_first K) := by
  obtain ⟨fd, F⟩ := T.F_Bitmap_first
  have G_Bitmap_nth := ok_Bitmap_nth (P := P) (w := w) (base := base) T
  have G_Bitmap_ones := ok_Bitmap_ones (P := P) (w := w) (base := base) T
  have G_Bitmap_span := ok_Bitmap_span (P := P) (w := w) (base := base) T
  have G_Bitmapdd_anddd := ok_Bitmapdd_anddd (P := P) (w := w) (base := base) T
  refine mk_fn F sc_Bitmap_first (fun vs H Q E h => by
    revert h; intro h; (repeat (first | (obtain ⟨rfl, _⟩ := h; exact rfl) | obtain ⟨_, h⟩ := h))) (fun _ _ _ _ _ _ us hl => match us, hl with | [_, _], _ => rfl) (t := t_Bitmap_first K) (fun cdv A outer s H E hr => ?_) (fun vs H Q E h => pure_Bitmap_first vs H Q E h)
  exact pss_cons (ps_if (pt_cmp o_lt (pv 1) (pe_int) (nomark _)) (pss_one (ps_giv T.X_NoSuchRank (ps_rsI takesD T.Xi_NoSuchRank T.n_super T.g_NoSuchRank (hr.mono (by decide)) (pv 1) (fun _ _ _ _ _ _ _ us hl => match us, hl with | [_, _], _ => rfl) rfl ⟨_, rfl, rfl⟩ rfl rfl rfl (by decide +kernel) rfl rfl rfl rfl (by decide) (by decide) (fun _ => rfl) (fun _ => rfl) (fun _ => rfl)))) (pss_nil))
    (pss_stop (pss_cons (ps_if (pt_cmp o_ge (pv 1) (pe_prop T.C_Bitmap.sc T.P_Bitmap_ones G_Bitmap_ones (hr.mono (by decide)) (pv 0)) (nomark _)) (pss_one (ps_ret (pv 0))) (pss_nil))
    (pss_stop (pss_one (ps_ret (pe_op (op_ownB T.C_Bitmap.mf T.M_Bitmapdd_anddd G_Bitmapdd_anddd (hr.mono (by decide)) passD o_and) (pv 0) (pe_stat T.St_Bitmap_span (G_Bitmap_span) (hr.mono (by decide)) passD (pe_glob (by rfl) T.g_Bitmap rfl) (pa_cons (pe_at (pv 0)) (pa_cons (pe_int) (pa_cons (pe_meth T.C_Bitmap.sc T.M_Bitmap_nth G_Bitmap_nth (hr.mono (by decide)) passD (pv 0) (pa_cons (pv 1) (pa_nil))) (pa_nil)))))))))))
theorem ok__law_is_number (T : T0 P K mg) : FR P w K mg base 1 (He.fAd K ("_law_is_number", none)) (sp__law_is_number K) := by
  obtain ⟨fd, F⟩ := T.F__law_is_number
  refine mk_fn F sc__law_is_number (fun vs H Q E h => by
    revert h; intro h; (repeat (first | (obtain ⟨rfl, _⟩ := h; exact rfl) | obtain ⟨_, h⟩ := h))) (fun _ _ _ _ _ _ us hl => match us, hl with | [_], _ => rfl) (t := t__law_is_number K) (fun cdv A outer s H E hr => ?_) (fun vs H Q E h => pure__law_is_number vs H Q E h)
  exact pss_one (ps_ret (pe_and (pe_cb c_isi T.n_isinstance (by decide +kernel) (pa_cons (pv 0) (pa_cons (pe_bt T.n_int (by decide +kernel)) (pa_nil)))) (pe_one (pe_not (pe_cb c_isi T.n_isinstance (by decide +kernel) (pa_cons (pv 0) (pa_cons (pe_bt T.n_bool (by decide +kernel)) (pa_nil))))))))
theorem ok__law_is_bitmap (T : T0 P K mg) : FR P w K mg base 2 (He.fAd K ("_law_is_bitmap", none)) (sp__law_is_bitmap K) := by
  obtain ⟨fd, F⟩ := T.F__law_is_bitmap
  have G__law_is_number := ok__law_is_number (P := P) (w := w) (base := base) T
  refine mk_fn F sc__law_is_bitmap (fun vs H Q E h => by
    revert h; intro h; (repeat (first | (obtain ⟨rfl, _⟩ := h; exact rfl) | obtain ⟨_, h⟩ := h))) (fun _ _ _ _ _ _ us hl => match us, hl with | [_, _], _ => rfl) (t := t__law_is_bitmap K) (fun cdv A outer s H E hr => ?_) (fun vs H Q E h => pure__law_is_bitmap vs H Q E h)
  exact pss_cons (ps_if (PW.pt (pw_or (pt_not (pt_of (pe_giv T.C_Bitmap.mf (pe_cb c_isi T.n_isinstance (by decide +kernel) (pa_cons (pv 0) (pa_cons (pe_glob (by rfl) T.g_Bitmap rfl) (pa_nil))))))) (pw_or (pt_not (pt_of (pe_call (G__law_is_number) (hr.mono (by decide)) T.g__law_is_number T.k__law_is_number passD (pa_cons (pe_at (pv 0)) (pa_nil))))) (pw_or (pt_cmp (o_ne hr.units) (pe_at (pv 0)) (pv 1) (nomark _)) (pw_or1 (pt_not (pt_of (pe_cb c_isi T.n_isinstance (by decide +kernel) (pa_cons (pe_at (pv 0)) (pa_cons (pe_bt T.n_tuple (by decide +kernel)) (pa_nil))))))))))) (pss_one (ps_ret (pe_bl))) (pss_nil))
    (pss_stop (pss_cons (ps_set (i := 2) sc__law_is_bitmap.nd rfl (Or.inl rfl) (pe_un u_neg (pe_int)))
    (pss_stop (pss_cons (ps_for ownD rfl (pi_seq (pe_at (pv 0))) (pg_name (i := 3) sc__law_is_bitmap.nd rfl (Or.inl rfl)) (pss_cons (ps_if (PW.pt (pw_or (pt_not (pt_of (pe_call (G__law_is_number) (hr.mono (by decide)) T.g__law_is_number T.k__law_is_number passD (pa_cons (pv 3) (pa_nil))))) (pw_or (pt_cmp o_le (pv 3) (pv 2) (nomark _)) (pw_or1 (pt_cmp o_ge (pv 3) (pv 1) (nomark _)))))) (pss_one (ps_ret (pe_bl))) (pss_nil))
    (pss_stop (pss_one (ps_set (i := 2) sc__law_is_bitmap.nd rfl (Or.inl rfl) (pv 3))))))
    (pss_stop (pss_one (ps_ret (pe_bl))))))))
theorem ok__law_in (T : T0 P K mg) : FR P w K mg base 1 (He.fAd K ("_law_in", none)) (sp__law_in K) := by
  obtain ⟨fd, F⟩ := T.F__law_in
  refine mk_fn F sc__law_in (fun vs H Q E h => by
    revert h; intro h; (repeat (first | (obtain ⟨rfl, _⟩ := h; exact rfl) | obtain ⟨_, h⟩ := h))) (fun _ _ _ _ _ _ us hl => match us, hl with | [_, _], _ => rfl) (t := t__law_in K) (fun cdv A outer s H E hr => ?_) (fun vs H Q E h => pure__law_in vs H Q E h)
  exact pss_cons (ps_set (i := 2) sc__law_in.nd rfl (Or.inl rfl) (pe_bl))
    (pss_stop (pss_cons (ps_for ownD rfl (pi_seq (pv 0)) (pg_name (i := 3) sc__law_in.nd rfl (Or.inl rfl)) (pss_one (ps_if (pt_cmp o_le (pv 3) (pv 1) (nomark _)) (pss_one (ps_set (i := 2) sc__law_in.nd rfl (Or.inl rfl) (pe_not (pv 2)))) (pss_nil))))
    (pss_stop (pss_one (ps_ret (pv 2))))))
theorem ok__law_is_first (T : T0 P K mg) : FR P w K mg base 3 (He.fAd K ("_law_is_first", none)) (sp__law_is_first K) := by
  obtain ⟨fd, F⟩ := T.F__law_is_first
  have G__law_below := ok__law_below (P := P) (w := w) (base := base) T
  have G__law_in := ok__law_in (P := P) (w := w) (base := base) T
  have G__law_is_bitmap := ok__law_is_bitmap (P := P) (w := w) (base := base) T
  have G__law_runs := ok__law_runs (P := P) (w := w) (base := base) T
  refine mk_fn F sc__law_is_first (fun vs H Q E h => by
    revert h; intro h; (repeat (first | (obtain ⟨rfl, _⟩ := h; exact rfl) | obtain ⟨_, h⟩ := h))) (fun _ _ _ _ _ _ us hl => match us, hl with | [_, _, _, _], _ => rfl) (t := t__law_is_first K) (fun cdv A outer s H E hr => ?_) (fun vs H Q E h => pure__law_is_first vs H Q E h)
  exact pss_cons (ps_if (pt_not (pt_of (pe_call (G__law_is_bitmap) (hr.mono (by decide)) T.g__law_is_bitmap T.k__law_is_bitmap passD (pa_cons (pv 0) (pa_cons (pv 1) (pa_nil)))))) (pss_one (ps_ret (pe_bl))) (pss_nil))
    (pss_stop (pss_cons (ps_set (i := 4) sc__law_is_first.nd rfl (Or.inl rfl) (pe_call (G__law_runs) (hr.mono (by decide)) T.g__law_runs T.k__law_runs passD (pa_cons (pv 1) (pa_cons (pv 2) (pa_nil)))))
    (pss_stop (pss_cons (ps_set (i := 5) sc__law_is_first.nd rfl (Or.inl rfl) (pe_op o_add (pe_op o_add (pe_lst (pa_cons (pe_int) (pa_nil))) (pv 2)) (pe_ct c_list T.n_list (by decide +kernel) (pa_cons (pe_at (pv 0)) (pa_nil)))))
    (pss_stop (pss_cons (ps_for ownD rfl (pi_seq (pe_op o_add (pe_op o_add (pv 5) (pe_lc (own := [("_law_start", 8)]) rfl sc__law_is_first.nd (pi_seq (pv 5)) (blkOk_by (own := [("_law_start", 8)]) (N := ["_law_made", "_law_size_here", "_law_ends_here", "_law_k", "_law_runs_here", "_law_starts", "_law_row", "_law_due", "_law_start"]) (sc := defScope s__law_is_first) (by decide +kernel)) (fun _ _ _ _ _ => pg_name (i := 8) sc__law_is_first.nd rfl (Or.inl rfl)) (fun _ _ _ _ _ => pts_nil) (fun _ _ _ _ _ => pe_op o_sub (pv 8) (pe_int)))) (pe_lst (pa_cons (pe_op o_sub (pv 1) (pe_int)) (pa_nil))))) (pg_name (i := 6) sc__law_is_first.nd rfl (Or.inl rfl)) (pss_one (ps_if (PW.pt (pw_and (pt_cmp o_le (pe_int) (pv 6) (nomark _)) (pw_and1 (pt_cmp o_lt (pv 6) (pv 1) (nomark _))))) (pss_cons (ps_set (i := 7) sc__law_is_first.nd rfl (Or.inl rfl) (pe_and (pe_call (G__law_in) (hr.mono (by decide)) T.g__law_in T.k__law_in passD (pa_cons (pv 2) (pa_cons (pv 6) (pa_nil)))) (pe_one (pe_cmp o_lt (pe_call (G__law_below) (hr.mono (by decide)) T.g__law_below T.k__law_below passD (pa_cons (pv 4) (pa_cons (pv 6) (pa_nil)))) (pv 3) (nomark _)))))
    (pss_one (ps_if (pt_cmp (o_ne hr.units) (pe_call (G__law_in) (hr.mono (by decide)) T.g__law_in T.k__law_in passD (pa_cons (pe_at (pv 0)) (pa_cons (pv 6) (pa_nil)))) (pv 7) (nomark _)) (pss_one (ps_ret (pe_bl))) (pss_nil)))) (pss_nil))))
    (pss_stop (pss_one (ps_ret (pe_bl))))))))))
theorem ok__law_first_refused (T : T0 P K mg) : FR P w K mg base 7 (He.fAd K ("_law_first_refused", none)) (sp__law_first_refused K) := by
  obtain ⟨fd, F⟩ := T.F__law_first_refused
  have G_Bitmap_first := ok_Bitmap_first (P := P) (w := w) (base := base) T
  refine mk_fn F sc__law_first_refused (fun vs H Q E h => by
    revert h; intro h; (repeat (first | (obtain ⟨rfl, _⟩ := h; exact rfl) | obtain ⟨_, h⟩ := h))) (fun _ _ _ _ _ _ us hl => match us, hl with | [_, _], _ => rfl) (t := t__law_first_refused K) (fun cdv A outer s H E hr => ?_) (fun vs H Q E h => pure__law_first_refused vs H Q E h)
  exact pss_cons (ps_set (i := 2) sc__law_first_refused.nd rfl (Or.inl rfl) (pe_lst (pa_nil)))
    (pss_stop (pss_cons (ps_giv T.X_NoSuchRank (ps_try sc__law_first_refused.nd T.g_NoSuchRank takesD (fun W1 pn1 xe1 tk1 po1 => pss_one (ps_expr (pe_meth T.C_Bitmap.sc T.M_Bitmap_first G_Bitmap_first (hr.mono (by decide)) (passAt tk1) (pv 0) (pa_cons (pv 1) (pa_nil))))) (fun a1 oe1 cls1 d1 pn1 hz1 hf1 => pss_one (ps_set (i := 2) sc__law_first_refused.nd rfl (Or.inl rfl) (pe_lst (pa_cons (pe_xfX T.Xf_NoSuchRank_number hz1 hf1 (pv 3)) (pa_cons (pe_giv T.X_SliceError.mf (pe_cb (c_ise hz1 hf1) T.n_isinstance (by decide +kernel) (pa_cons (pv 3) (pa_cons (pe_glob (by rfl) T.g_SliceError rfl) (pa_nil))))) (pa_cons (pe_giv T.X_BadBitmap.mf (pe_cb (c_ise hz1 hf1) T.n_isinstance (by decide +kernel) (pa_cons (pv 3) (pa_cons (pe_glob (by rfl) T.g_BadBitmap rfl) (pa_nil))))) (pa_nil)))))))))
    (pss_stop (pss_one (ps_ret (pe_cmp (o_eq hr.units) (pv 2) (pe_lst (pa_cons (pv 1) (pa_cons (pe_bl) (pa_cons (pe_bl) (pa_nil))))) (nomark _)))))))
theorem ok_Bitmapdd_containsdd (T : T0 P K mg) : FR P w K mg base 1 (He.fAd K ("Bitmap", some "__contains__")) (sp_Bitmapdd_containsdd K) := by
  obtain ⟨fd, F⟩ := T.F_Bitmapdd_containsdd
  refine mk_fn F sc_Bitmapdd_containsdd (fun vs H Q E h => by
    revert h; intro h; (repeat (first | (obtain ⟨rfl, _⟩ := h; exact rfl) | obtain ⟨_, h⟩ := h))) (fun _ _ _ _ _ _ us hl => match us, hl with | [_, _], _ => rfl) (t := t_Bitmapdd_containsdd K) (fun cdv A outer s H E hr => ?_) (fun vs H Q E h => pure_Bitmapdd_containsdd vs H Q E h)
  exact pss_one (ps_ret (pe_and (pe_chain o_le o_lt (pe_int) (pv 1) (pe_at (pv 0))) (pe_one (pe_cmp (o_eq hr.units) (pe_op o_and (pe_cb c_len T.n_len (by decide +kernel) (pa_cons (pe_lc (own := [("end", 2)]) rfl sc_Bitmapdd_containsdd.nd (pi_seq (pe_at (pv 0))) (blkOk_by (own := [("end", 2)]) (N := ["self", "row", "end"]) (sc := defScope s_Bitmapdd_containsdd) (by decide +kernel)) (fun _ _ _ _ _ => pg_name (i := 2) sc_Bitmapdd_containsdd.nd rfl (Or.inl rfl)) (fun _ _ _ _ _ => pts_one (pt_cmp o_le (pv 2) (pv 1) (nomark _))) (fun _ _ _ _ _ => pv 2)) (pa_nil))) (pe_int)) (pe_int) (nomark _)))))
theorem ok_Bitmap_cut (T : T0 P K mg) : FR P w K mg base 3 (He.fAd K ("Bitmap", some "cut")) (sp_Bitmap_cut K) := by
  obtain ⟨fd, F⟩ := T.F_Bitmap_cut
  have G_Bitmapdd_containsdd := ok_Bitmapdd_containsdd (P := P) (w := w) (base := base) T
  have G_Bitmapdd_initdd := ok_Bitmapdd_initdd (P := P) (w := w) (base := base) T
  refine mk_fn F sc_Bitmap_cut (fun vs H Q E h => by
    revert h; intro h; (repeat (first | (obtain ⟨rfl, _⟩ := h; exact rfl) | obtain ⟨_, h⟩ := h))) (fun _ _ _ _ _ _ us hl => match us, hl with | [_, _, _], _ => rfl) (t := t_Bitmap_cut K) (fun cdv A outer s H E hr => ?_) (fun vs H Q E h => pure_Bitmap_cut vs H Q E h)
  exact pss_cons (ps_if (pt_not (pt_chain3 o_le o_le o_le (pe_int) (pv 1) (pv 2) (pe_at (pv 0)))) (pss_one (ps_giv T.X_BadBitmap (ps_rs takesD T.R_BadBitmap T.g_BadBitmap))) (pss_nil))
    (pss_stop (pss_cons (ps_setLc (i := 3) (own := [("end", 4)]) rfl sc_Bitmap_cut.nd rfl rfl (sw_true rfl rfl rfl (by decide +kernel)) (pi_seq (pe_at (pv 0))) (blkOk_by (own := [("end", 4)]) (N := ["self", "start", "stop", "ends", "end"]) (sc := defScope s_Bitmap_cut) (by decide +kernel)) (fun _ _ _ _ _ => pg_name (i := 4) sc_Bitmap_cut.nd rfl (Or.inl rfl)) (fun _ _ _ _ _ => pts_one (pt_chain o_lt o_lt (pv 1) (pv 4) (pv 2))) (fun _ _ _ _ _ => pe_op o_sub (pv 4) (pv 1)))
    (pss_stop (pss_cons (ps_if (PW.pt (pw_and (pt_cmp o_lt (pv 1) (pv 2) (nomark _)) (pw_and1 (pt_cmp (op_inO T.M_Bitmapdd_containsdd G_Bitmapdd_containsdd (hr.mono (by decide)) passD) (pv 1) (pv 0) (by rfl))))) (pss_one (ps_set (i := 3) sc_Bitmap_cut.nd rfl (Or.inl rfl) (pe_op o_add (pe_lst (pa_cons (pe_int) (pa_nil))) (pv 3)))) (pss_nil))
    (pss_stop (pss_one (ps_ret (pe_giv T.C_Bitmap (pe_mk T.K_Bitmap G_Bitmapdd_initdd (hr.mono (by decide)) T.g_Bitmap passD (pa_cons (pe_op o_sub (pv 2) (pv 1)) (pa_cons (pv 3) (pa_nil))))))))))))
theorem ok__law_is_cut (T : T0 P K mg) : FR P w K mg base 3 (He.fAd K ("_law_is_cut", none)) (sp__law_is_cut K) := by
  obtain ⟨fd, F⟩ := T.F__law_is_cut
  have G__law_in := ok__law_in (P := P) (w := w) (base := base) T
  have G__law_is_bitmap := ok__law_is_bitmap (P := P) (w := w) (base := base) T
  refine mk_fn F sc__law_is_cut (fun vs H Q E h => by
    revert h; intro h; (repeat (first | (obtain ⟨rfl, _⟩ := h; exact rfl) | obtain ⟨_, h⟩ := h))) (fun _ _ _ _ _ _ us hl => match us, hl with | [_, _, _, _], _ => rfl) (t := t__law_is_cut K) (fun cdv A outer s H E hr => ?_) (fun vs H Q E h => pure__law_is_cut vs H Q E h)
  exact pss_cons (ps_if (pt_not (pt_of (pe_call (G__law_is_bitmap) (hr.mono (by decide)) T.g__law_is_bitmap T.k__law_is_bitmap passD (pa_cons (pv 0) (pa_cons (pe_op o_sub (pv 3) (pv 2)) (pa_nil)))))) (pss_one (ps_ret (pe_bl))) (pss_nil))
    (pss_stop (pss_cons (ps_for ownD rfl (pi_seq (pe_op o_add (pe_op o_add (pe_lst (pa_cons (pe_int) (pa_nil))) (pe_ct c_list T.n_list (by decide +kernel) (pa_cons (pe_at (pv 0)) (pa_nil)))) (pe_lc (own := [("_law_end", 5)]) rfl sc__law_is_cut.nd (pi_seq (pv 1)) (blkOk_by (own := [("_law_end", 5)]) (N := ["_law_made", "_law_ends_here", "_law_start", "_law_stop", "_law_row", "_law_end"]) (sc := defScope s__law_is_cut) (by decide +kernel)) (fun _ _ _ _ _ => pg_name (i := 5) sc__law_is_cut.nd rfl (Or.inl rfl)) (fun _ _ _ _ _ => pts_one (pt_cmp o_gt (pv 5) (pv 2) (nomark _))) (fun _ _ _ _ _ => pe_op o_sub (pv 5) (pv 2))))) (pg_name (i := 4) sc__law_is_cut.nd rfl (Or.inl rfl)) (pss_one (ps_if (PW.pt (pw_and (pt_cmp o_lt (pv 4) (pe_op o_sub (pv 3) (pv 2)) (nomark _)) (pw_and1 (pt_cmp (o_ne hr.units) (pe_call (G__law_in) (hr.mono (by decide)) T.g__law_in T.k__law_in passD (pa_cons (pe_at (pv 0)) (pa_cons (pv 4) (pa_nil)))) (pe_call (G__law_in) (hr.mono (by decide)) T.g__law_in T.k__law_in passD (pa_cons (pv 1) (pa_cons (pe_op o_add (pv 2) (pv 4)) (pa_nil)))) (nomark _))))) (pss_one (ps_ret (pe_bl))) (pss_nil))))
    (pss_stop (pss_one (ps_ret (pe_bl))))))
theorem ok_turned (T : T0 P K mg) : FR P w K mg base 1 (He.fAd K ("turned", none)) (sp_turned K) := by
  obtain ⟨fd, F⟩ := T.F_turned
  refine mk_fn F sc_turned (fun vs H Q E h => by
    revert h; intro h; (repeat (first | (obtain ⟨rfl, _⟩ := h; exact rfl) | obtain ⟨_, h⟩ := h))) (fun _ _ _ _ _ _ us hl => match us, hl with | [_, _], _ => rfl) (t := t_turned K) (fun cdv A outer s H E hr => ?_) (fun vs H Q E h => pure_turned vs H Q E h)
  exact pss_cons (ps_if (pt_cmp (o_eq hr.units) (pv 1) (pe_int) (nomark _)) (pss_one (ps_ret (pe_tup (pa_nil)))) (pss_nil))
    (pss_stop (pss_cons (ps_if (PW.pt (pw_and (pt_cmp o_gt (pe_cb c_len T.n_len (by decide +kernel) (pa_cons (pv 0) (pa_nil))) (pe_int) (nomark _)) (pw_and1 (pt_cmp (o_eq hr.units) (pe_ix ix_any (pv 0) (pe_int) (fun _ _ => rfl)) (pe_int) (nomark _))))) (pss_one (ps_ret (pe_ct c_tuple T.n_tuple (by decide +kernel) (pa_cons (pe_slice sl_any (pv 0) (po_some (pe_int)) (po_none)) (pa_nil))))) (pss_nil))
    (pss_stop (pss_one (ps_ret (pe_op o_add (pe_tup (pa_cons (pe_int) (pa_nil))) (pe_ct c_tuple T.n_tuple (by decide +kernel) (pa_cons (pv 0) (pa_nil)))))))))
theorem ok_Bitmap_joined (T : T0 P K mg) : FR P w K mg base 3 (He.fAd K ("Bitmap", some "joined")) (sp_Bitmap_joined K) := by
  obtain ⟨fd, F⟩ := T.F_Bitmap_joined
  have G_Bitmapdd_initdd := ok_Bitmapdd_initdd (P := P) (w := w) (base := base) T
  have G_turned := ok_turned (P := P) (w := w) (base := base) T
  refine mk_fn F sc_Bitmap_joined (fun vs H Q E h => by
    revert h; intro h; (repeat (first | (obtain ⟨rfl, _⟩ := h; exact rfl) | obtain ⟨_, h⟩ := h))) (fun _ _ _ _ _ _ us hl => match us, hl with | [_, _], _ => rfl) (t := t_Bitmap_joined K) (fun cdv A outer s H E hr => ?_) (fun vs H Q E h => pure_Bitmap_joined vs H Q E h)
  exact pss_cons (ps_set (i := 2) sc_Bitmap_joined.nd rfl (Or.inl rfl) (pe_at (pv 1)))
    (pss_stop (pss_cons (ps_if (pt_cmp (o_eq hr.units) (pe_op o_and (pe_cb c_len T.n_len (by decide +kernel) (pa_cons (pe_at (pv 0)) (pa_nil))) (pe_int)) (pe_int) (nomark _)) (pss_one (ps_set (i := 2) sc_Bitmap_joined.nd rfl (Or.inl rfl) (pe_call (G_turned) (hr.mono (by decide)) T.g_turned T.k_turned passD (pa_cons (pv 2) (pa_cons (pe_at (pv 1)) (pa_nil)))))) (pss_nil))
    (pss_stop (pss_one (ps_ret (pe_giv T.C_Bitmap (pe_mk T.K_Bitmap G_Bitmapdd_initdd (hr.mono (by decide)) T.g_Bitmap passD (pa_cons (pe_op o_add (pe_at (pv 0)) (pe_at (pv 1))) (pa_cons (pe_op o_add (pe_ct c_list T.n_list (by decide +kernel) (pa_cons (pe_at (pv 0)) (pa_nil))) (pe_lc (own := [("end", 3)]) rfl sc_Bitmap_joined.nd (pi_seq (pv 2)) (blkOk_by (own := [("end", 3)]) (N := ["self", "other", "ends", "end"]) (sc := defScope s_Bitmap_joined) (by decide +kernel)) (fun _ _ _ _ _ => pg_name (i := 3) sc_Bitmap_joined.nd rfl (Or.inl rfl)) (fun _ _ _ _ _ => pts_nil) (fun _ _ _ _ _ => pe_op o_add (pe_at (pv 0)) (pv 3)))) (pa_nil))))))))))
theorem ok__law_is_joined (T : T0 P K mg) : FR P w K mg base 3 (He.fAd K ("_law_is_joined", none)) (sp__law_is_joined K) := by
  obtain ⟨fd, F⟩ := T.F__law_is_joined
  have G__law_in := ok__law_in (P := P) (w := w) (base := base) T
  have G__law_is_bitmap := ok__law_is_bitmap (P := P) (w := w) (base := base) T
  refine mk_fn F sc__law_is_joined (fun vs H Q E h => by
    revert h; intro h; (repeat (first | (obtain ⟨rfl, _⟩ := h; exact rfl) | obtain ⟨_, h⟩ := h))) (fun _ _ _ _ _ _ us hl => match us, hl with | [_, _, _, _, _], _ => rfl) (t := t__law_is_joined K) (fun cdv A outer s H E hr => ?_) (fun vs H Q E h => pure__law_is_joined vs H Q E h)
  exact pss_cons (ps_if (pt_not (pt_of (pe_call (G__law_is_bitmap) (hr.mono (by decide)) T.g__law_is_bitmap T.k__law_is_bitmap passD (pa_cons (pv 0) (pa_cons (pe_op o_add (pv 1) (pv 3)) (pa_nil)))))) (pss_one (ps_ret (pe_bl))) (pss_nil))
    (pss_stop (pss_cons (ps_for ownD rfl (pi_seq (pe_op o_add (pe_op o_add (pe_op o_add (pe_lst (pa_cons (pe_int) (pa_cons (pv 1) (pa_nil)))) (pe_ct c_list T.n_list (by decide +kernel) (pa_cons (pe_at (pv 0)) (pa_nil)))) (pv 2)) (pe_lc (own := [("_law_end", 6)]) rfl sc__law_is_joined.nd (pi_seq (pv 4)) (blkOk_by (own := [("_law_end", 6)]) (N := ["_law_made", "_law_size_here", "_law_one", "_law_far", "_law_other", "_law_row", "_law_end"]) (sc := defScope s__law_is_joined) (by decide +kernel)) (fun _ _ _ _ _ => pg_name (i := 6) sc__law_is_joined.nd rfl (Or.inl rfl)) (fun _ _ _ _ _ => pts_nil) (fun _ _ _ _ _ => pe_op o_add (pv 1) (pv 6))))) (pg_name (i := 5) sc__law_is_joined.nd rfl (Or.inl rfl)) (pss_cons (ps_if (PW.pt (pw_and (pt_cmp o_lt (pv 5) (pv 1) (nomark _)) (pw_and1 (pt_cmp (o_ne hr.units) (pe_call (G__law_in) (hr.mono (by decide)) T.g__law_in T.k__law_in passD (pa_cons (pe_at (pv 0)) (pa_cons (pv 5) (pa_nil)))) (pe_call (G__law_in) (hr.mono (by decide)) T.g__law_in T.k__law_in passD (pa_cons (pv 2) (pa_cons (pv 5) (pa_nil)))) (nomark _))))) (pss_one (ps_ret (pe_bl))) (pss_nil))
    (pss_stop (pss_one (ps_if (PW.pt (pw_and (pt_cmp o_le (pv 1) (pv 5) (nomark _)) (pw_and (pt_cmp o_lt (pv 5) (pe_op o_add (pv 1) (pv 3)) (nomark _)) (pw_and1 (pt_cmp (o_ne hr.units) (pe_call (G__law_in) (hr.mono (by decide)) T.g__law_in T.k__law_in passD (pa_cons (pe_at (pv 0)) (pa_cons (pv 5) (pa_nil)))) (pe_call (G__law_in) (hr.mono (by decide)) T.g__law_in T.k__law_in passD (pa_cons (pv 4) (pa_cons (pe_op o_sub (pv 5) (pv 1)) (pa_nil)))) (nomark _)))))) (pss_one (ps_ret (pe_bl))) (pss_nil))))))
    (pss_stop (pss_one (ps_ret (pe_bl))))))
theorem ok_Bitmapdd_eqdd (T : T0 P K mg) : FR P w K mg base 1 (He.fAd K ("Bitmap", some "__eq__")) (sp_Bitmapdd_eqdd K) := by
  obtain ⟨fd, F⟩ := T.F_Bitmapdd_eqdd
  refine mk_fn F sc_Bitmapdd_eqdd (fun vs H Q E h => by
    revert h; intro h; (repeat (first | (obtain ⟨rfl, _⟩ := h; exact rfl) | obtain ⟨_, h⟩ := h))) (fun _ _ _ _ _ _ us hl => match us, hl with | [_, _], _ => rfl) (t := t_Bitmapdd_eqdd K) (fun cdv A outer s H E hr => ?_) (fun vs H Q E h => pure_Bitmapdd_eqdd vs H Q E h)
  exact pss_one (ps_ret (pe_and (pe_giv T.C_Bitmap.mf (pe_cb c_isi T.n_isinstance (by decide +kernel) (pa_cons (pv 1) (pa_cons (pe_glob (by rfl) T.g_Bitmap rfl) (pa_nil))))) (pe_and (pe_cmp (o_eq hr.units) (pe_at (pv 0)) (pe_at (pv 1)) (nomark _)) (pe_one (pe_cmp (o_eq hr.units) (pe_at (pv 0)) (pe_at (pv 1)) (nomark _))))))
theorem ok__law_cut_refused (T : T0 P K mg) : FR P w K mg base 4 (He.fAd K ("_law_cut_refused", none)) (sp__law_cut_refused K) := by
  obtain ⟨fd, F⟩ := T.F__law_cut_refused
  have G_Bitmap_cut := ok_Bitmap_cut (P := P) (w := w) (base := base) T
  refine mk_fn F sc__law_cut_refused (fun vs H Q E h => by
    revert h; intro h; (repeat (first | (obtain ⟨rfl, _⟩ := h; exact rfl) | obtain ⟨_, h⟩ := h))) (fun _ _ _ _ _ _ us hl => match us, hl with | [_, _, _], _ => rfl) (t := t__law_cut_refused K) (fun cdv A outer s H E hr => ?_) (fun vs H Q E h => pure__law_cut_refused vs H Q E h)
  exact pss_cons (ps_set (i := 3) sc__law_cut_refused.nd rfl (Or.inl rfl) (pe_lst (pa_nil)))
    (pss_stop (pss_cons (ps_giv T.X_BadBitmap (ps_try sc__law_cut_refused.nd T.g_BadBitmap takesD (fun W1 pn1 xe1 tk1 po1 => pss_one (ps_expr (pe_meth T.C_Bitmap.sc T.M_Bitmap_cut G_Bitmap_cut (hr.mono (by decide)) (passAt tk1) (pv 0) (pa_cons (pv 1) (pa_cons (pv 2) (pa_nil)))))) (fun a1 oe1 cls1 d1 pn1 hz1 hf1 => pss_one (ps_set (i := 3) sc__law_cut_refused.nd rfl (Or.inl rfl) (pe_lst (pa_cons (pe_giv T.X_SliceError.mf (pe_cb (c_ise hz1 hf1) T.n_isinstance (by decide +kernel) (pa_cons (pv 4) (pa_cons (pe_glob (by rfl) T.g_SliceError rfl) (pa_nil))))) (pa_cons (pe_giv T.X_NoSuchRank.mf (pe_cb (c_ise hz1 hf1) T.n_isinstance (by decide +kernel) (pa_cons (pv 4) (pa_cons (pe_glob (by rfl) T.g_NoSuchRank rfl) (pa_nil))))) (pa_nil))))))))
    (pss_stop (pss_one (ps_ret (pe_cmp (o_eq hr.units) (pv 3) (pe_lst (pa_cons (pe_bl) (pa_cons (pe_bl) (pa_nil)))) (nomark _)))))))
theorem ok_law (T : T0 P K mg) {fd : FuncData} (F : FunD K "law" "law" (defArgs s_law) (defBody s_law) (defScope s_law) [] [] (He.fAd K ("law", none)) fd) : FnOk P w K mg base CX0 8 (He.fAd K ("law", none)) fd ["_law_script"] (sp_law K) := by
  have G_Bitmap_cut := ok_Bitmap_cut (P := P) (w := w) (base := base) T
  have G_Bitmap_first := ok_Bitmap_first (P := P) (w := w) (base := base) T
  have G_Bitmap_joined := ok_Bitmap_joined (P := P) (w := w) (base := base) T
  have G_Bitmapdd_eqdd := ok_Bitmapdd_eqdd (P := P) (w := w) (base := base) T
  have G_Bitmapdd_initdd := ok_Bitmapdd_initdd (P := P) (w := w) (base := base) T
  have G__law_below := ok__law_below (P := P) (w := w) (base := base) T
  have G__law_cut_refused := ok__law_cut_refused (P := P) (w := w) (base := base) T
  have G__law_draw := ok__law_draw (P := P) (w := w) (base := base) T
  have G__law_ends := ok__law_ends (P := P) (w := w) (base := base) T
  have G__law_first_refused := ok__law_first_refused (P := P) (w := w) (base := base) T
  have G__law_is_cut := ok__law_is_cut (P := P) (w := w) (base := base) T
  have G__law_is_first := ok__law_is_first (P := P) (w := w) (base := base) T
  have G__law_is_joined := ok__law_is_joined (P := P) (w := w) (base := base) T
  have G__law_runs := ok__law_runs (P := P) (w := w) (base := base) T
  have G__law_size := ok__law_size (P := P) (w := w) (base := base) T
  have G__law_wide := ok__law_wide (P := P) (w := w) (base := base) T
  refine mk_law F sc_law (fun vs H Q E h => by
    revert h; intro h; (repeat (first | (obtain ⟨rfl, _⟩ := h; exact rfl) | obtain ⟨_, h⟩ := h))) (t := t_law K) (fun cdv A outer s H E hr => ?_) (fun vs H Q E h => pure_law vs H Q E0 h)
  exact pss_cons (ps_set (i := 1) sc_law.nd rfl (Or.inl rfl) (pe_lst (pa_cons (pe_int) (pa_cons (pe_int) (pa_cons (pe_int) (pa_cons (pe_int) (pa_nil)))))))
    (pss_stop (pss_cons (ps_set (i := 2) sc_law.nd rfl (Or.inl rfl) (pe_op o_fdiv (pe_call (G__law_size) (hr.mono (by decide)) T.g__law_size T.k__law_size passL0 (pa_cons (pv 0) (pa_cons (pv 1) (pa_nil)))) (pe_int)))
    (pss_stop (pss_cons (ps_set (i := 3) sc_law.nd rfl (Or.inl rfl) (pe_call (G__law_ends) (hr.mono (by decide)) T.g__law_ends T.k__law_ends passL0 (pa_cons (pv 0) (pa_cons (pv 1) (pa_cons (pv 2) (pa_cons (pe_int) (pa_nil)))))))
    (pss_stop (pss_cons (ps_set (i := 4) sc_law.nd rfl (Or.inl rfl) (pe_op o_fdiv (pe_call (G__law_size) (hr.mono (by decide)) T.g__law_size T.k__law_size passL0 (pa_cons (pv 0) (pa_cons (pv 1) (pa_nil)))) (pe_int)))
    (pss_stop (pss_cons (ps_set (i := 5) sc_law.nd rfl (Or.inl rfl) (pe_call (G__law_ends) (hr.mono (by decide)) T.g__law_ends T.k__law_ends passL0 (pa_cons (pv 0) (pa_cons (pv 1) (pa_cons (pv 4) (pa_cons (pe_int) (pa_nil)))))))
    (pss_stop (pss_cons (ps_set (i := 6) sc_law.nd rfl (Or.inl rfl) (pe_giv T.C_Bitmap (pe_mk T.K_Bitmap G_Bitmapdd_initdd (hr.mono (by decide)) T.g_Bitmap passL0 (pa_cons (pv 2) (pa_cons (pv 3) (pa_nil))))))
    (pss_stop (pss_cons (ps_set (i := 7) sc_law.nd rfl (Or.inl rfl) (pe_giv T.C_Bitmap (pe_mk T.K_Bitmap G_Bitmapdd_initdd (hr.mono (by decide)) T.g_Bitmap passL0 (pa_cons (pv 4) (pa_cons (pv 5) (pa_nil))))))
    (pss_stop (pss_cons (ps_set (i := 8) sc_law.nd rfl (Or.inl rfl) (pe_call (G__law_below) (hr.mono (by decide)) T.g__law_below T.k__law_below passL0 (pa_cons (pe_call (G__law_runs) (hr.mono (by decide)) T.g__law_runs T.k__law_runs passL0 (pa_cons (pv 2) (pa_cons (pv 3) (pa_nil)))) (pa_cons (pv 2) (pa_nil)))))
    (pss_stop (pss_cons (ps_set (i := 9) sc_law.nd rfl (Or.inl rfl) (pe_call (G__law_wide) (hr.mono (by decide)) T.g__law_wide T.k__law_wide passL0 (pa_cons (pv 0) (pa_cons (pv 1) (pa_cons (pe_op o_add (pv 8) (pe_int)) (pa_nil))))))
    (pss_stop (pss_cons (ps_set (i := 10) sc_law.nd rfl (Or.inl rfl) (pe_call (G__law_draw) (hr.mono (by decide)) T.g__law_draw T.k__law_draw passL0 (pa_cons (pv 0) (pa_cons (pv 1) (pa_cons (pe_int) (pa_nil))))))
    (pss_stop (pss_cons (ps_for PassesOwn.never rfl (pi_seq (pe_lst (pa_cons (pe_int) (pa_cons (pe_op o_fdiv (pv 8) (pe_int)) (pa_cons (pv 8) (pa_cons (pe_op o_add (pv 8) (pv 10)) (pa_cons (pv 9) (pa_nil)))))))) (pg_name (i := 11) sc_law.nd rfl (Or.inl rfl)) (pss_one (ps_if (pt_not (pt_of (pe_call (G__law_is_first) (hr.mono (by decide)) T.g__law_is_first T.k__law_is_first passL0 (pa_cons (pe_meth T.C_Bitmap.sc T.M_Bitmap_first G_Bitmap_first (hr.mono (by decide)) passL0 (pv 6) (pa_cons (pv 11) (pa_nil))) (pa_cons (pv 2) (pa_cons (pv 3) (pa_cons (pv 11) (pa_nil)))))))) (pss_one (ps_ret (pe_bl))) (pss_nil))))
    (pss_stop (pss_cons (ps_if (pt_not (pt_of (pe_call (G__law_first_refused) (hr.mono (by decide)) T.g__law_first_refused T.k__law_first_refused passL0 (pa_cons (pv 6) (pa_cons (pe_op o_sub (pe_un u_neg (pe_int)) (pv 10)) (pa_nil)))))) (pss_one (ps_ret (pe_bl))) (pss_nil))
    (pss_stop (pss_cons (ps_set (i := 12) sc_law.nd rfl (Or.inl rfl) (pe_call (G__law_wide) (hr.mono (by decide)) T.g__law_wide T.k__law_wide passL0 (pa_cons (pv 0) (pa_cons (pv 1) (pa_cons (pe_op o_add (pv 2) (pe_int)) (pa_nil))))))
    (pss_stop (pss_cons (ps_set (i := 13) sc_law.nd rfl (Or.inl rfl) (pe_op o_add (pv 12) (pe_call (G__law_wide) (hr.mono (by decide)) T.g__law_wide T.k__law_wide passL0 (pa_cons (pv 0) (pa_cons (pv 1) (pa_cons (pe_op o_add (pe_op o_sub (pv 2) (pv 12)) (pe_int)) (pa_nil)))))))
    (pss_stop (pss_cons (ps_set (i := 14) sc_law.nd rfl (Or.inl rfl) (pe_call (G__law_wide) (hr.mono (by decide)) T.g__law_wide T.k__law_wide passL0 (pa_cons (pv 0) (pa_cons (pv 1) (pa_cons (pe_op o_add (pv 2) (pe_int)) (pa_nil))))))
    (pss_stop (pss_cons (ps_if (pt_not (pt_of (pe_call (G__law_is_cut) (hr.mono (by decide)) T.g__law_is_cut T.k__law_is_cut passL0 (pa_cons (pe_meth T.C_Bitmap.sc T.M_Bitmap_cut G_Bitmap_cut (hr.mono (by decide)) passL0 (pv 6) (pa_cons (pv 12) (pa_cons (pv 13) (pa_nil)))) (pa_cons (pv 3) (pa_cons (pv 12) (pa_cons (pv 13) (pa_nil)))))))) (pss_one (ps_ret (pe_bl))) (pss_nil))
    (pss_stop (pss_cons (ps_if (PW.pt (pw_or (pt_not (pt_of (pe_call (G__law_is_joined) (hr.mono (by decide)) T.g__law_is_joined T.k__law_is_joined passL0 (pa_cons (pe_meth T.C_Bitmap.sc T.M_Bitmap_joined G_Bitmap_joined (hr.mono (by decide)) passL0 (pv 6) (pa_cons (pv 7) (pa_nil))) (pa_cons (pv 2) (pa_cons (pv 3) (pa_cons (pv 4) (pa_cons (pv 5) (pa_nil))))))))) (pw_or1 (pt_not (pt_of (pe_call (G__law_is_joined) (hr.mono (by decide)) T.g__law_is_joined T.k__law_is_joined passL0 (pa_cons (pe_meth T.C_Bitmap.sc T.M_Bitmap_joined G_Bitmap_joined (hr.mono (by decide)) passL0 (pv 6) (pa_cons (pv 6) (pa_nil))) (pa_cons (pv 2) (pa_cons (pv 3) (pa_cons (pv 2) (pa_cons (pv 3) (pa_nil)))))))))))) (pss_one (ps_ret (pe_bl))) (pss_nil))
    (pss_stop (pss_cons (ps_set (i := 15) sc_law.nd rfl (Or.inl rfl) (pe_meth T.C_Bitmap.sc T.M_Bitmap_joined G_Bitmap_joined (hr.mono (by decide)) passL0 (pe_meth T.C_Bitmap.sc T.M_Bitmap_cut G_Bitmap_cut (hr.mono (by decide)) passL0 (pv 6) (pa_cons (pe_int) (pa_cons (pv 14) (pa_nil)))) (pa_cons (pe_meth T.C_Bitmap.sc T.M_Bitmap_cut G_Bitmap_cut (hr.mono (by decide)) passL0 (pv 6) (pa_cons (pv 14) (pa_cons (pv 2) (pa_nil)))) (pa_nil))))
    (pss_stop (pss_cons (ps_if (PW.pt (pw_or (pt_not (pt_cmp (op_eqO T.M_Bitmapdd_eqdd G_Bitmapdd_eqdd (hr.mono (by decide)) passL0) (pv 15) (pv 6) (nomark _))) (pw_or (pt_cmp (o_ne hr.units) (pe_ct c_list T.n_list (by decide +kernel) (pa_cons (pe_at (pv 15)) (pa_nil))) (pv 3) (nomark _)) (pw_or1 (pt_cmp (o_ne hr.units) (pe_at (pv 15)) (pv 2) (nomark _)))))) (pss_one (ps_ret (pe_bl))) (pss_nil))
    (pss_stop (pss_cons (ps_if (PW.pt (pw_or (pt_not (pt_of (pe_call (G__law_cut_refused) (hr.mono (by decide)) T.g__law_cut_refused T.k__law_cut_refused passL0 (pa_cons (pv 6) (pa_cons (pe_op o_sub (pe_un u_neg (pe_int)) (pv 10)) (pa_cons (pv 2) (pa_nil))))))) (pw_or1 (pt_not (pt_of (pe_call (G__law_cut_refused) (hr.mono (by decide)) T.g__law_cut_refused T.k__law_cut_refused passL0 (pa_cons (pv 6) (pa_cons (pe_op o_add (pe_op o_add (pv 12) (pe_int)) (pv 10)) (pa_cons (pv 12) (pa_nil)))))))))) (pss_one (ps_ret (pe_bl))) (pss_nil))
    (pss_stop (pss_cons (ps_if (pt_not (pt_of (pe_call (G__law_cut_refused) (hr.mono (by decide)) T.g__law_cut_refused T.k__law_cut_refused passL0 (pa_cons (pv 6) (pa_cons (pe_int) (pa_cons (pe_op o_add (pe_op o_add (pv 2) (pe_int)) (pv 10)) (pa_nil))))))) (pss_one (ps_ret (pe_bl))) (pss_nil))
    (pss_stop (pss_one (ps_ret (pe_and (pe_cmp (op_eqO T.M_Bitmapdd_eqdd G_Bitmapdd_eqdd (hr.mono (by decide)) passL0) (pe_at (pv 6)) (pv 2) (nomark _)) (pe_and (pe_cmp (op_eqO T.M_Bitmapdd_eqdd G_Bitmapdd_eqdd (hr.mono (by decide)) passL0) (pe_ct c_list T.n_list (by decide +kernel) (pa_cons (pe_at (pv 6)) (pa_nil))) (pv 3) (nomark _)) (pe_and (pe_cmp (op_eqO T.M_Bitmapdd_eqdd G_Bitmapdd_eqdd (hr.mono (by decide)) passL0) (pe_at (pv 7)) (pv 4) (nomark _)) (pe_one (pe_cmp (op_eqO T.M_Bitmapdd_eqdd G_Bitmapdd_eqdd (hr.mono (by decide)) passL0) (pe_ct c_list T.n_list (by decide +kernel) (pa_cons (pe_at (pv 7)) (pa_nil))) (pv 5) (nomark _)))))))))))))))))))))))))))))))))))))))))))))))))
end
theorem hfacts {w : World} {K : Frag} {h : Heap} {mg : Str → Option Value} {f : Addr} (X : K.In h) (G : h.Ns mainGlobals mg) (hla : mg ("law" : Str) = some (.ref f)) (c : SaysX hfa hfx hfn K) :
    ∃ fd : FuncData, (∀ (s : Shared) (v : Value), BindsTo s fd ⟨[v], []⟩ [("_law_script", v)]) ∧ ∀ base : Heap, K.In base → base.Ns mainGlobals mg → FnOk hP w K mg base CX0 8 f fd ["_law_script"] (sp_law K) := by
  have g_AND := He.glo_ok X G (c.fact 0 (f := .glo "AND") rfl)
  have g_BadBitmap := He.glo_ok X G (c.fact 1 (f := .glo "BadBitmap") rfl)
  have g_Bitmap := He.glo_ok X G (c.fact 2 (f := .glo "Bitmap") rfl)
  have g_NoSuchRank := He.glo_ok X G (c.fact 3 (f := .glo "NoSuchRank") rfl)
  have g_NoSuchRow := He.glo_ok X G (c.fact 4 (f := .glo "NoSuchRow") rfl)
  have g_SizesDiffer := He.glo_ok X G (c.fact 5 (f := .glo "SizesDiffer") rfl)
  have g_SliceError := He.glo_ok X G (c.fact 6 (f := .glo "SliceError") rfl)
  have g__law_below := He.glo_ok X G (c.fact 7 (f := .glo "_law_below") rfl)
  have g__law_cut_refused := He.glo_ok X G (c.fact 8 (f := .glo "_law_cut_refused") rfl)
  have g__law_draw := He.glo_ok X G (c.fact 9 (f := .glo "_law_draw") rfl)
  have g__law_ends := He.glo_ok X G (c.fact 10 (f := .glo "_law_ends") rfl)
  have g__law_first_refused := He.glo_ok X G (c.fact 11 (f := .glo "_law_first_refused") rfl)
  have g__law_in := He.glo_ok X G (c.fact 12 (f := .glo "_law_in") rfl)
  have g__law_is_bitmap := He.glo_ok X G (c.fact 13 (f := .glo "_law_is_bitmap") rfl)
  have g__law_is_cut := He.glo_ok X G (c.fact 14 (f := .glo "_law_is_cut") rfl)
  have g__law_is_first := He.glo_ok X G (c.fact 15 (f := .glo "_law_is_first") rfl)
  have g__law_is_joined := He.glo_ok X G (c.fact 16 (f := .glo "_law_is_joined") rfl)
  have g__law_is_number := He.glo_ok X G (c.fact 17 (f := .glo "_law_is_number") rfl)
  have g__law_runs := He.glo_ok X G (c.fact 18 (f := .glo "_law_runs") rfl)
  have g__law_size := He.glo_ok X G (c.fact 19 (f := .glo "_law_size") rfl)
  have g__law_wide := He.glo_ok X G (c.fact 20 (f := .glo "_law_wide") rfl)
  have g_law := He.glo_ok X G (c.fact 21 (f := .glo "law") rfl)
  have g_next_end := He.glo_ok X G (c.fact 22 (f := .glo "next_end") rfl)
  have g_swept := He.glo_ok X G (c.fact 23 (f := .glo "swept") rfl)
  have g_turned := He.glo_ok X G (c.fact 24 (f := .glo "turned") rfl)
  have n_abs := He.free_ok X G (c.fact 25 (f := .free "abs") rfl)
  have n_bool := He.free_ok X G (c.fact 26 (f := .free "bool") rfl)
  have n_enumerate := He.free_ok X G (c.fact 27 (f := .free "enumerate") rfl)
  have n_int := He.free_ok X G (c.fact 28 (f := .free "int") rfl)
  have n_isinstance := He.free_ok X G (c.fact 29 (f := .free "isinstance") rfl)
  have n_len := He.free_ok X G (c.fact 30 (f := .free "len") rfl)
  have n_list := He.free_ok X G (c.fact 31 (f := .free "list") rfl)
  have n_min := He.free_ok X G (c.fact 32 (f := .free "min") rfl)
  have n_range := He.free_ok X G (c.fact 33 (f := .free "range") rfl)
  have n_super := He.free_ok X G (c.fact 34 (f := .free "super") rfl)
  have n_tuple := He.free_ok X G (c.fact 35 (f := .free "tuple") rfl)
  have K_Bitmap : Mk K (He.ga K "Bitmap") (He.fAd K ("Bitmap", some "__init__")) := He.mkr_ok (c.fact 36 (f := .mkr "Bitmap") rfl)
  have M_Bitmap_cut : Meth K (He.ga K "Bitmap") "cut" (He.fAd K ("Bitmap", some "cut")) := He.meth_ok (c.fact 37 (f := .meth "Bitmap" "cut") rfl)
  have M_Bitmap_first : Meth K (He.ga K "Bitmap") "first" (He.fAd K ("Bitmap", some "first")) := He.meth_ok (c.fact 38 (f := .meth "Bitmap" "first") rfl)
  have M_Bitmap_joined : Meth K (He.ga K "Bitmap") "joined" (He.fAd K ("Bitmap", some "joined")) := He.meth_ok (c.fact 39 (f := .meth "Bitmap" "joined") rfl)
  have M_Bitmap_nth : Meth K (He.ga K "Bitmap") "nth" (He.fAd K ("Bitmap", some "nth")) := He.meth_ok (c.fact 40 (f := .meth "Bitmap" "nth") rfl)
  have M_Bitmap_paired : Meth K (He.ga K "Bitmap") "paired" (He.fAd K ("Bitmap", some "paired")) := He.meth_ok (c.fact 41 (f := .meth "Bitmap" "paired") rfl)
  have M_Bitmap_rank : Meth K (He.ga K "Bitmap") "rank" (He.fAd K ("Bitmap", some "rank")) := He.meth_ok (c.fact 42 (f := .meth "Bitmap" "rank") rfl)
  have M_Bitmap_runs : Meth K (He.ga K "Bitmap") "runs" (He.fAd K ("Bitmap", some "runs")) := He.meth_ok (c.fact 43 (f := .meth "Bitmap" "runs") rfl)
  have M_Bitmapdd_anddd : Meth K (He.ga K "Bitmap") "__and__" (He.fAd K ("Bitmap", some "__and__")) := He.meth_ok (c.fact 44 (f := .meth "Bitmap" "__and__") rfl)
  have M_Bitmapdd_containsdd : Meth K (He.ga K "Bitmap") "__contains__" (He.fAd K ("Bitmap", some "__contains__")) := He.meth_ok (c.fact 45 (f := .meth "Bitmap" "__contains__") rfl)
  have M_Bitmapdd_eqdd : Meth K (He.ga K "Bitmap") "__eq__" (He.fAd K ("Bitmap", some "__eq__")) := He.meth_ok (c.fact 46 (f := .meth "Bitmap" "__eq__") rfl)
  have C_Bitmap : CF K "Bitmap" ["ends", "size"] := cfB_ok (c.more 0 (f := cfB "Bitmap" ["ends", "size"]) rfl)
  have E_Bitmapdd_initdd_0 : EmpT K (V.ref (He.dflAt ("Bitmap", some "__init__") 0 K)) := empB_ok (c.more 1 (f := fun K => empB K (V.ref (He.dflAt ("Bitmap", some "__init__") 0 K))) rfl)
  have P_Bitmap_ones : PropF K "Bitmap" "ones" (uA K "Bitmap" "ones") := propB_ok (c.more 2 (f := propB "Bitmap" "ones") rfl)
  have R_BadBitmap : RsF K "BadBitmap" := rsB_ok (c.more 3 (f := rsB "BadBitmap") rfl)
  have R_SizesDiffer : RsF K "SizesDiffer" := rsB_ok (c.more 4 (f := rsB "SizesDiffer") rfl)
  have St_Bitmap_span : StF K "Bitmap" "span" := statB_ok (c.more 5 (f := statB "Bitmap" "span") rfl)
  have U_AND : TupG K "AND" [V.int 0, V.int 0, V.int 0, V.int 1] := tupG_ok (vs := [.int 0, .int 0, .int 0, .int 1]) (c.more 6 (f := fun K => He.tupB K "AND" [.int 0, .int 0, .int 0, .int 1]) rfl)
  have X_BadBitmap : ExF K "BadBitmap" ["SliceError"] := exfB_ok (c.more 7 (f := exfB "BadBitmap" ["SliceError"]) rfl)
  have X_NoSuchRank : ExF K "NoSuchRank" ["SliceError"] := exfB_ok (c.more 8 (f := exfB "NoSuchRank" ["SliceError"]) rfl)
  have X_NoSuchRow : ExF K "NoSuchRow" ["SliceError"] := exfB_ok (c.more 9 (f := exfB "NoSuchRow" ["SliceError"]) rfl)
  have X_SizesDiffer : ExF K "SizesDiffer" ["SliceError"] := exfB_ok (c.more 10 (f := exfB "SizesDiffer" ["SliceError"]) rfl)
  have X_SliceError : ExF K "SliceError" [] := exfB_ok (c.more 11 (f := exfB "SliceError" []) rfl)
  have Xf_NoSuchRank_number : XfF K "NoSuchRank" "number" := xffB_ok (c.more 12 (f := xffB "NoSuchRank" "number") rfl)
  have Xi_NoSuchRank : ∃ fd, XiF hP K "NoSuchRank" "number" "__init__" "NoSuchRank.__init__" (defArgs s_NoSuchRankdd_initdd) (defBody s_NoSuchRankdd_initdd) (defScope s_NoSuchRankdd_initdd) (He.fAd K ("NoSuchRank", some "__init__")) fd := xi_of (c.fnv 31 (d := ⟨fun K => He.fAd K ("NoSuchRank", some "__init__"), "__init__", "NoSuchRank.__init__", defArgs s_NoSuchRankdd_initdd, defBody s_NoSuchRankdd_initdd, defScope s_NoSuchRankdd_initdd, [], [], ["__class__"]⟩) rfl) (c.more 13 (f := xiB hP "NoSuchRank" "number") rfl)
  have Xi_NoSuchRow : ∃ fd, XiF hP K "NoSuchRow" "row" "__init__" "NoSuchRow.__init__" (defArgs s_NoSuchRowdd_initdd) (defBody s_NoSuchRowdd_initdd) (defScope s_NoSuchRowdd_initdd) (He.fAd K ("NoSuchRow", some "__init__")) fd := xi_of (c.fnv 32 (d := ⟨fun K => He.fAd K ("NoSuchRow", some "__init__"), "__init__", "NoSuchRow.__init__", defArgs s_NoSuchRowdd_initdd, defBody s_NoSuchRowdd_initdd, defScope s_NoSuchRowdd_initdd, [], [], ["__class__"]⟩) rfl) (c.more 14 (f := xiB hP "NoSuchRow" "row") rfl)
  have F__law_draw := c.def_ 0 rfl
  have F__law_wide := c.def_ 1 rfl
  have F__law_size := c.def_ 2 rfl
  have F__law_ends := c.def_ 3 rfl
  have F_Bitmapdd_initdd := c.def_ 4 rfl
  have F__law_runs := c.def_ 5 rfl
  have F__law_below := c.def_ 6 rfl
  have F_Bitmap_rank := c.def_ 7 rfl
  have F_Bitmap_ones := c.def_ 8 rfl
  have F_Bitmap_runs := c.def_ 9 rfl
  have F_Bitmap_nth := c.def_ 10 rfl
  have F_Bitmap_span := c.def_ 11 rfl
  have F_next_end := c.def_ 12 rfl
  have F_swept := c.def_ 13 rfl
  have F_Bitmap_paired := c.def_ 14 rfl
  have F_Bitmapdd_anddd := c.def_ 15 rfl
  have F_Bitmap_first := c.def_ 16 rfl
  have F__law_is_number := c.def_ 17 rfl
  have F__law_is_bitmap := c.def_ 18 rfl
  have F__law_in := c.def_ 19 rfl
  have F__law_is_first := c.def_ 20 rfl
  have F__law_first_refused := c.def_ 21 rfl
  have F_Bitmapdd_containsdd := c.def_ 22 rfl
  have F_Bitmap_cut := c.def_ 23 rfl
  have F__law_is_cut := c.def_ 24 rfl
  have F_turned := c.def_ 25 rfl
  have F_Bitmap_joined := c.def_ 26 rfl
  have F__law_is_joined := c.def_ 27 rfl
  have F_Bitmapdd_eqdd := c.def_ 28 rfl
  have F__law_cut_refused := c.def_ 29 rfl
  have F_law := c.def_ 30 rfl
  have T : T0 hP K mg := ⟨n_abs, n_bool, n_enumerate, n_int, n_isinstance, n_len, n_list, n_min, n_range, n_super, n_tuple, g_AND, g_BadBitmap, g_Bitmap, g_NoSuchRank, g_NoSuchRow, g_SizesDiffer, g_SliceError, g__law_below, g__law_cut_refused, g__law_draw, g__law_ends, g__law_first_refused, g__law_in, g__law_is_bitmap, g__law_is_cut, g__law_is_first, g__law_is_joined, g__law_is_number, g__law_runs, g__law_size, g__law_wide, g_law, g_next_end, g_swept, g_turned, F__law_draw, (let ⟨_, F⟩ := F__law_draw; F.kp), F__law_wide, (let ⟨_, F⟩ := F__law_wide; F.kp), F__law_size, (let ⟨_, F⟩ := F__law_size; F.kp), F__law_ends, (let ⟨_, F⟩ := F__law_ends; F.kp), F_Bitmapdd_initdd, (let ⟨_, F⟩ := F_Bitmapdd_initdd; F.kp), F__law_runs, (let ⟨_, F⟩ := F__law_runs; F.kp), F__law_below, (let ⟨_, F⟩ := F__law_below; F.kp), F_Bitmap_rank, (let ⟨_, F⟩ := F_Bitmap_rank; F.kp), F_Bitmap_ones, (let ⟨_, F⟩ := F_Bitmap_ones; F.kp), F_Bitmap_runs, (let ⟨_, F⟩ := F_Bitmap_runs; F.kp), F_Bitmap_nth, (let ⟨_, F⟩ := F_Bitmap_nth; F.kp), F_Bitmap_span, (let ⟨_, F⟩ := F_Bitmap_span; F.kp), F_next_end, (let ⟨_, F⟩ := F_next_end; F.kp), F_swept, (let ⟨_, F⟩ := F_swept; F.kp), F_Bitmap_paired, (let ⟨_, F⟩ := F_Bitmap_paired; F.kp), F_Bitmapdd_anddd, (let ⟨_, F⟩ := F_Bitmapdd_anddd; F.kp), F_Bitmap_first, (let ⟨_, F⟩ := F_Bitmap_first; F.kp), F__law_is_number, (let ⟨_, F⟩ := F__law_is_number; F.kp), F__law_is_bitmap, (let ⟨_, F⟩ := F__law_is_bitmap; F.kp), F__law_in, (let ⟨_, F⟩ := F__law_in; F.kp), F__law_is_first, (let ⟨_, F⟩ := F__law_is_first; F.kp), F__law_first_refused, (let ⟨_, F⟩ := F__law_first_refused; F.kp), F_Bitmapdd_containsdd, (let ⟨_, F⟩ := F_Bitmapdd_containsdd; F.kp), F_Bitmap_cut, (let ⟨_, F⟩ := F_Bitmap_cut; F.kp), F__law_is_cut, (let ⟨_, F⟩ := F__law_is_cut; F.kp), F_turned, (let ⟨_, F⟩ := F_turned; F.kp), F_Bitmap_joined, (let ⟨_, F⟩ := F_Bitmap_joined; F.kp), F__law_is_joined, (let ⟨_, F⟩ := F__law_is_joined; F.kp), F_Bitmapdd_eqdd, (let ⟨_, F⟩ := F_Bitmapdd_eqdd; F.kp), F__law_cut_refused, (let ⟨_, F⟩ := F__law_cut_refused; F.kp), F_law, (let ⟨_, F⟩ := F_law; F.kp), C_Bitmap, E_Bitmapdd_initdd_0, K_Bitmap, M_Bitmap_cut, M_Bitmap_first, M_Bitmap_joined, M_Bitmap_nth, M_Bitmap_paired, M_Bitmap_rank, M_Bitmap_runs, M_Bitmapdd_anddd, M_Bitmapdd_containsdd, M_Bitmapdd_eqdd, P_Bitmap_ones, R_BadBitmap, R_SizesDiffer, St_Bitmap_span, U_AND, X_BadBitmap, X_NoSuchRank, X_NoSuchRow, X_SizesDiffer, X_SliceError, Xf_NoSuchRank_number, Xi_NoSuchRank, Xi_NoSuchRow⟩
  obtain ⟨fd, F⟩ := F_law
  have e := hla.symm.trans g_law
  cases e
  have b := FunD.bindsA (ps := ["_law_script"]) F fun _ _ _ _ _ _ us hl => match us, hl with | [_], _ => rfl
  exact ⟨fd, fun s v => b s [v] rfl, fun base _ _ => ok_law T F⟩
end S
open PySem PySem.W PySem.Calls PyProof.Rows
theorem PySem.Challenge.cw_slicedcolumns_k07_first_cut_joined_holds : PySem.Challenge.rw_slicedcolumns_k07_first_cut_joined.Holds := by
  w_on; o_law
  refine HandSHeadRun.head_any (r := OpenLaw.row PySem.Challenge.rw_slicedcolumns_k07_first_cut_joined) (q := view (OpenLaw.row PySem.Challenge.rw_slicedcolumns_k07_first_cut_joined).prog [32]) (H := S.hhk) (ob := S.hob) (M := 16000) (loose := S.hloose) (d := HandSHeadRun.topDef (OpenLaw.row PySem.Challenge.rw_slicedcolumns_k07_first_cut_joined).prog 32) (kwd := []) S.hob_eq
    (by kernel_rfl) (fun s => by kernel_rfl) S.hrun (by kernel_rfl) (by kernel_rfl) (by kernel_rfl) (by rfl) (by first | assumption | decide +kernel) (by decide +kernel) ⟨rfl, rfl, rfl, rfl, rfl, by decide +kernel⟩ ?hw ?hc
  case hw => w_witness2
  case hc =>
    refine L2.walk_ofE (l := PySem.Challenge.rw_slicedcolumns_k07_first_cut_joined) (n := 63) (k := 8) (x := "_law_script") (CX := L2.CX0) rfl (by decide) (by kernel_rfl) ⟨rfl, by decide, by decide⟩ ?F (fun _ _ _ _ z => z)
    intro w mg fa h Y G hmg0
    obtain ⟨K, KX, c⟩ := Y
    have hmg : mg ("law" : PySem.Str) = some (.ref fa) := by
      have e : (HandSHeadRun.topDef (OpenLaw.row PySem.Challenge.rw_slicedcolumns_k07_first_cut_joined).prog 32).name = ("law" : PySem.Str) := by kernel_rfl
      rw [← e]
      exact hmg0
    obtain ⟨fd, hb, hF⟩ := S.hfacts (w := w) KX G hmg c
    exact ⟨K, fd, S.sp_law K, KX, hb, fun H a ns hl _ hS => ⟨a, ns, rfl, hS, fun _ => rfl⟩, hF⟩
