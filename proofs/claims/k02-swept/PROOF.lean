import PyProof.Rows.All
import Wide.All
import OpenK.AllK
import Wide.FinOn
import HandS.ForMost
import HandS.ForExc
import HandS.TupAny
import HandS.IsInst
import HandS.Conv
import HandS.Defaults
import HandS.WideBits
import HandS.SortInts
import HandS.Slots
import HandS.Flow
import HandS.Head0
import HandS.Head1
import HandS.Head2
import HandS.HeadEnd
import HandS.HeadHook1
import HandS.HeadHook2
import PySem.Challenge.RW_slicedcolumns_k02_swept
set_option Elab.async false
set_option linter.all false
set_option maxRecDepth 100000
set_option maxHeartbeats 4000000
namespace S
open PySem PySem.Spec PyProof.Rows L2
abbrev Frag := PySem.W.Frag
/-! ## readings that reduce -/
theorem PE.of {X : Cx} {e : Expr} {t t' : TE} (h : PE X e t) (i : ∀ σ H Q, t' σ H Q → t σ H Q) : PE X e t' := ⟨fun pins s σ H Q I q => h.run pins s σ H Q I (i σ H Q q)⟩
theorem PT.of {X : Cx} {e : Expr} {t t' : TT} (h : PT X e t) (i : ∀ σ H Q, t' σ H Q → t σ H Q) : PT X e t' := ⟨fun pins s σ H Q I q => h.run pins s σ H Q I (i σ H Q q)⟩
theorem PS.of {X : Cx} {e : Stmt} {t t' : TS} (h : PS X e t) (i : ∀ D σ H, t' D σ H → t D σ H) : PS X e t' := ⟨fun pins s σ H Q I q => h.run pins s σ H Q I (i Q σ H q)⟩
theorem OpR.of {X : Cx} {f : Value → Value → Sem Value} {r r' : R2} (h : OpR X f r) (i : ∀ x y H Q, r' x y H Q → r x y H Q) : OpR X f r' := fun pins s σ H x y v u Q I rx ry q => h pins s σ H x y v u Q I rx ry (i x y H Q q)
theorem IxR.of {X : Cx} {r r' : R2} (h : IxR X r) (i : ∀ x y H Q, r' x y H Q → r x y H Q) : IxR X r' := fun e1 e2 pins s σ H x y v u Q I rx ry q hs => h e1 e2 pins s σ H x y v u Q I rx ry (i x y H Q q) hs
theorem CallR.of {X : Cx} {f : Value} {r r' : List V → Hp → VK → Prop} (h : CallR X f r) (i : ∀ xs H Q, r' xs H Q → r xs H Q) : CallR X f r' := fun pins s σ H xs us Q I rx q => h pins s σ H xs us Q I rx (i xs H Q q)
def nth : L2.St → Nat → Option V
  | [], _ => none
  | x :: _, 0 => x
  | _ :: r, n + 1 => nth r n
theorem nth_ok : ∀ {σ : L2.St} {i : Nat} {v : V}, nth σ i = some v → σ[i]? = some (some v)
  | [], _, _, h => nomatch h
  | x :: _, 0, _, h => by
    have e : x = some _ := h
    rw [e]; rfl
  | _ :: r, n + 1, _, h => by
    have := nth_ok (σ := r) (i := n) h
    simpa using this
def SqA (K : Frag) (H : Hp) (p : Addr) (xs : List V) : Prop := SqL K H p xs ∨ SqT K H p xs
/-! ### points at which a reading waits for an answer -/
/-- a condition, then on -/
structure Need (c q : Prop) : Prop where
  c : c
  q : q
/-- the sequence at p is read -/
structure Rd (K : Frag) (H : Hp) (p : Addr) (k : List V → Prop) : Prop where
  ex : ∃ xs, SqA K H p xs ∧ k xs
theorem Rd.l {K : Frag} {H : Hp} {p : Addr} {k : List V → Prop} {xs : List V} (h : H p = some (.lst xs)) (q : k xs) : Rd K H p k := ⟨xs, .inl (SqL.of h), q⟩
theorem Rd.t {K : Frag} {H : Hp} {p : Addr} {k : List V → Prop} {xs : List V} (h : H p = some (.tup xs)) (q : k xs) : Rd K H p k := ⟨xs, .inr (SqT.of h), q⟩
theorem Rd.sl {K : Frag} {H : Hp} {p : Addr} {k : List V → Prop} {xs : List V} (h : SqL K H p xs) (q : k xs) : Rd K H p k := ⟨xs, .inl h, q⟩
theorem Rd.st {K : Frag} {H : Hp} {p : Addr} {k : List V → Prop} {xs : List V} (h : SqT K H p xs) (q : k xs) : Rd K H p k := ⟨xs, .inr h, q⟩
theorem Rd.sa {K : Frag} {H : Hp} {p : Addr} {k : List V → Prop} {xs : List V} (h : SqA K H p xs) (q : k xs) : Rd K H p k := ⟨xs, h, q⟩
/-- the item at i -/
structure At (xs : List V) (i : Int) (k : V → Prop) : Prop where
  ex : ∃ v, atI xs i = some v ∧ k v
theorem At.of {xs : List V} {i : Int} {k : V → Prop} {v : V} (h : atI xs i = some v) (q : k v) : At xs i k := ⟨v, h, q⟩
/-- the list at p is to be changed -/
structure Ls (H : Hp) (p : Addr) (k : List V → Prop) : Prop where
  ex : ∃ xs, H p = some (.lst xs) ∧ k xs
theorem Ls.of {H : Hp} {p : Addr} {k : List V → Prop} {xs : List V} (h : H p = some (.lst xs)) (q : k xs) : Ls H p k := ⟨xs, h, q⟩
/-- a new list; a new tuple, or one that stands -/
structure NewL (H : Hp) (ys : List V) (Q : V → Hp → Prop) : Prop where
  go : ∀ p, H p = none → Q (.ref p) (upd H p (.lst ys))
structure NewT (K : Frag) (H : Hp) (ys : List V) (Q : V → Hp → Prop) : Prop where
  go : ∀ p H', Same H H' → SqT K H' p ys → Q (.ref p) H'
def onSome (o : Option V) (k : V → Prop) : Prop := match o with
  | some v => k v
  | none => False
def dVar (i : Nat) : TE := fun σ H Q => onSome (nth σ i) fun v => Q v H
theorem pv {X : Cx} (i : Nat) {x : Str} {pos : Pos} (hN : X.N[i]? = some x := by rfl) (hv : Vis X.env.scope x := by first | exact Or.inl rfl | exact Or.inr (Or.inl rfl) | exact Or.inr (Or.inr rfl)) (hd : (x == ("__debug__" : Str)) = false := by decide)
    (hcd : (x == ("__classdict__" : Str)) = false := by decide) : PE X (.Name x pos) (dVar i) := PE.of (pe_var hN hv hd hcd) fun σ H Q q => by
  unfold dVar onSome at q
  cases e : nth σ i with
  | none => rw [e] at q; exact q.elim
  | some v => rw [e] at q; exact ⟨v, nth_ok e, q⟩
/-- two ways by a bool -/
def bIf (b : Bool) (A B : Prop) : Prop := match b with
  | true => A
  | false => B
theorem bIf_of {b : Bool} {A B : Prop} (h : bIf b A B) : if b = true then A else B := by
  cases b with
  | true => exact iteT h
  | false => exact iteF h
theorem ifb {b : Bool} {A B : Prop} (h1 : b = true → A) (h2 : b = false → B) : bIf b A B := by
  cases b with
  | true => exact h1 rfl
  | false => exact h2 rfl
theorem ifd {c : Prop} [Decidable c] {A B : Prop} (h1 : c → A) (h2 : ¬ c → B) : bIf (decide c) A B := ifb (fun h => h1 (of_decide_eq_true h)) fun h => h2 (of_decide_eq_false h)
theorem ifn {c : Prop} [Decidable c] {A B : Prop} (h1 : ¬ c → A) (h2 : c → B) : bIf (!decide c) A B := ifb (fun h => h1 (by simpa using h)) fun h => h2 (by simpa using h)
theorem ift {c : Prop} [Decidable c] {A B : Prop} (hc : c) (h1 : A) : bIf (decide c) A B := by rw [decide_eq_true hc]; exact h1
theorem iff' {c : Prop} [Decidable c] {A B : Prop} (hc : ¬ c) (h1 : B) : bIf (decide c) A B := by rw [decide_eq_false hc]; exact h1
theorem ifnt {c : Prop} [Decidable c] {A B : Prop} (hc : ¬ c) (h1 : A) : bIf (!decide c) A B := by rw [decide_eq_false hc]; exact h1
theorem ifnf {c : Prop} [Decidable c] {A B : Prop} (hc : c) (h1 : B) : bIf (!decide c) A B := by rw [decide_eq_true hc]; exact h1
/-! ### tests -/
def dTru (K : Frag) (x : V) (H : Hp) (Q : Bool → Prop) : Prop := match x with
  | .bl b => Q b
  | .non => Q false
  | .int i => Q (decide (i ≠ 0))
  | .str z => Need (z.length ≤ sizeLine) (Q (decide (z.length ≠ 0)))
  | .ref p => Rd K H p fun xs => Q (decide (xs ≠ []))
  | _ => False
def dTest (K : Frag) (ta : TE) : TT := fun σ H Q => ta σ H fun x H1 => dTru K x H1 fun b => Q b H1
theorem pt_of {X : Cx} {a : Expr} {ta : TE} (ha : PE X a ta) (he : ∀ whole, isTrue a X.env whole = (do let v ← whole; standAt a.pos; holding [v] (truthy v)) := by intro _; rfl) : PT X a (dTest X.K ta) := by
  refine ⟨fun pins s σ H Q I h => ?_⟩
  refine isTrue_plain (thn (ha.run pins s σ H _ I h) fun v s1 ⟨x, H1, I1, r1, q1⟩ => ?_) (he _)
  cases x with
  | bl b =>
    exact tru_ok pins s1 σ H1 (.bl b) v Q I1 r1 ⟨b, rfl, q1⟩
  | non =>
    exact tru_ok pins s1 σ H1 .non v Q I1 r1 ⟨false, rfl, q1⟩
  | int i =>
    refine tru_ok pins s1 σ H1 (.int i) v Q I1 r1 ⟨_, rfl, ?_⟩
    have e : (i != 0) = decide (i ≠ 0) := by by_cases h : i = 0 <;> simp [h]
    rw [e]; exact q1
  | str z =>
    refine tru_ok pins s1 σ H1 (.str z) v Q I1 r1 ⟨_, ⟨q1.c, rfl⟩, ?_⟩
    have e : ((z.length : Int) != 0) = decide (z.length ≠ 0) := by by_cases h : z.length = 0 <;> simp [h]
    rw [e]; exact q1.q
  | ref p =>
    obtain ⟨⟨xs, hx, q⟩⟩ := q1
    have e : (!xs.isEmpty) = decide (xs ≠ []) := by cases xs <;> simp
    rcases hx with hx | hx
    · refine tru_ok pins s1 σ H1 (.ref p) v Q I1 r1 ⟨_, .inl ⟨xs, hx, rfl⟩, ?_⟩
      rw [e]; exact q
    · refine tru_ok pins s1 σ H1 (.ref p) v Q I1 r1 ⟨_, .inr (.inl ⟨xs, hx, rfl⟩), ?_⟩
      rw [e]; exact q
  | _ => exact q1.elim
def dAnd (t u : TT) : TT := fun σ H Q => t σ H fun c H1 => bIf c (u σ H1 Q) (Q false H1)
def dOr (t u : TT) : TT := fun σ H Q => t σ H fun c H1 => bIf c (Q true H1) (u σ H1 Q)
def dNot (t : TT) : TT := fun σ H Q => t σ H fun c H1 => Q (!c) H1
def dIfE (t : TT) (ta tb : TE) : TE := fun σ H Q => t σ H fun c H1 => bIf c (ta σ H1 Q) (tb σ H1 Q)
def dIfS (c : TT) (t u : TS) : TS := fun D σ H => c σ H fun b H1 => bIf b (t D σ H1) (u D σ H1)

/-! ### operators by the values -/
def int2 (k : Int → Int → Prop) (x y : V) : Prop := match x, y with
  | .int i, .int j => k i j
  | _, _ => False
/-- two lists, two tuples one behind the other -/
structure Cat (K : Frag) (H : Hp) (a b : Addr) (Q : V → Hp → Prop) : Prop where
  ex : (∃ xs zs, H a = some (.lst xs) ∧ H b = some (.lst zs) ∧ xs.length + zs.length ≤ sizeLine ∧ ∀ p, H p = none → Q (.ref p) (upd H p (.lst (xs ++ zs)))) ∨
     (∃ xs ys, SqT K H a xs ∧ SqT K H b ys ∧ xs.length + ys.length ≤ sizeLine ∧ ∀ p H', Same H H' → SqT K H' p (xs ++ ys) → Q (.ref p) H')
theorem Cat.l {K : Frag} {H : Hp} {a b : Addr} {Q : V → Hp → Prop} {xs zs : List V} (h : H a = some (.lst xs)) (h2 : H b = some (.lst zs)) (hz : xs.length + zs.length ≤ sizeLine) (q : ∀ p, H p = none → Q (.ref p) (upd H p (.lst (xs ++ zs)))) : Cat K H a b Q := ⟨.inl ⟨xs, zs, h, h2, hz, q⟩⟩
theorem Cat.t {K : Frag} {H : Hp} {a b : Addr} {Q : V → Hp → Prop} {xs ys : List V} (h : SqT K H a xs) (h2 : SqT K H b ys) (hz : xs.length + ys.length ≤ sizeLine) (q : ∀ p H', Same H H' → SqT K H' p (xs ++ ys) → Q (.ref p) H') : Cat K H a b Q := ⟨.inr ⟨xs, ys, h, h2, hz, q⟩⟩
def oAdd (K : Frag) : R2 := fun x y H Q => match x, y with
  | .int i, .int j => Q (.int (i + j)) H
  | .str a, .str b => Need (a.length + b.length ≤ sizeLine) (Q (.str (a ++ b)) H)
  | .ref a, .ref b => Cat K H a b Q
  | _, _ => False
theorem same_new {H : Hp} {p : Addr} {o : HO} (h : H p = none) : Same H (upd H p o) := fun b u e => by rw [upd_ne (ne_of_none e h)]; exact e
theorem o_add {X : Cx} : OpR X (binaryOp .Add) (oAdd X.K) := OpR.of (op_add.or (op_add_str.or (op_cat.or op_catA))) fun x y H Q q => by
  cases x <;> cases y <;> try exact q.elim
  · exact .inl ⟨_, _, rfl, rfl, q⟩
  · exact .inr (.inl ⟨_, _, rfl, rfl, q.c, q.q⟩)
  · rcases q.ex with ⟨xs, zs, h1, h2, h3, q⟩ | ⟨xs, ys, h1, h2, h3, q⟩
    · exact .inr (.inr (.inl ⟨_, _, xs, zs, rfl, rfl, h1, h2, h3, q⟩))
    · refine .inr (.inr (.inr ⟨_, _, xs, ys, rfl, rfl, h1, h2, h3, fun e => ?_, fun _ e => ?_, fun _ _ p hp => ?_⟩))
      · subst e; exact q _ _ (Same.refl _) h2
      · subst e; exact q _ _ (Same.refl _) (by rw [List.append_nil]; exact h1)
      · exact q _ _ (same_new hp) (SqT.of upd_same)
def oI (C : Int → Int → Prop) (g : Int → Int → Int) : R2 := fun x y H Q => int2 (fun i j => Need (C i j) (Q (.int (g i j)) H)) x y
def oI0 (g : Int → Int → Int) : R2 := fun x y H Q => int2 (fun i j => Q (.int (g i j)) H) x y
theorem oI_of {X : Cx} {f : Value → Value → Sem Value} {C : Int → Int → Prop} {g : Int → Int → Int} (h : OpR X f (rI C fun i j => .int (g i j))) : OpR X f (oI C g) := OpR.of h fun x y H Q q => by
  cases x <;> cases y <;> try exact q.elim
  exact ⟨_, _, rfl, rfl, q.c, q.q⟩
theorem oI0_of {X : Cx} {f : Value → Value → Sem Value} {g : Int → Int → Int} (h : OpR X f (rI0 fun i j => .int (g i j))) : OpR X f (oI0 g) := OpR.of h fun x y H Q q => by
  cases x <;> cases y <;> try exact q.elim
  exact ⟨_, _, rfl, rfl, q⟩
def oSub : R2 := oI0 fun i j => i - j
theorem o_sub {X : Cx} : OpR X (binaryOp .Sub) oSub := oI0_of op_sub
def oMul : R2 := oI CMul fun i j => i * j
theorem o_mul {X : Cx} : OpR X (binaryOp .Mult) oMul := oI_of op_mul
def oFdiv : R2 := oI CDiv fun i j => i / j
theorem o_fdiv {X : Cx} : OpR X (binaryOp .FloorDiv) oFdiv := oI_of op_fdiv
def oMod : R2 := oI (fun _ j => 0 < j) fun i j => i % j
theorem o_mod {X : Cx} : OpR X (binaryOp .Mod) oMod := oI_of op_mod
def oPow : R2 := oI CPow fun i j => i ^ j.toNat
theorem o_pow {X : Cx} : OpR X (binaryOp .Pow) oPow := oI_of op_pow
def oAnd : R2 := oI0 fun i j => Builtin.bitAnd i j
theorem o_and {X : Cx} : OpR X (binaryOp .BitAnd) oAnd := oI0_of op_and
def oShl : R2 := oI CPow fun i j => i * 2 ^ j.toNat
theorem o_shl {X : Cx} : OpR X (binaryOp .LShift) oShl := oI_of op_shl
def oShr : R2 := oI (fun _ j => 0 ≤ j) fun i j => i / 2 ^ j.toNat
theorem o_shr {X : Cx} : OpR X (binaryOp .RShift) oShr := oI_of op_shr
def uNeg : V → Hp → VK → Prop := fun x H Q => match x with
  | .int i => Q (.int (-i)) H
  | _ => False
theorem u_neg {X : Cx} : UnR X (unaryOp .USub) uNeg := fun pins s σ H x v Q I rx q => by
  cases x <;> try exact q.elim
  exact un_neg pins s σ H _ v Q I rx ⟨_, rfl, q⟩
def oC (g : Int → Int → Bool) : R2 := fun x y H Q => int2 (fun i j => Q (.bl (g i j)) H) x y
theorem oC_of {X : Cx} {f : Value → Value → Sem Value} {g : Int → Int → Bool} (h : OpR X f (rI0 fun i j => .bl (g i j))) : OpR X f (oC g) := OpR.of h fun x y H Q q => by
  cases x <;> cases y <;> try exact q.elim
  exact ⟨_, _, rfl, rfl, q⟩
def oLt : R2 := oC fun i j => decide (i < j)
def oLe : R2 := oC fun i j => decide (i ≤ j)
def oGt : R2 := oC fun i j => decide (j < i)
def oGe : R2 := oC fun i j => decide (j ≤ i)
theorem o_lt {X : Cx} : OpR X (compareOp .Lt) oLt := oC_of op_lt
theorem o_le {X : Cx} : OpR X (compareOp .LtE) oLe := oC_of op_le
theorem o_gt {X : Cx} : OpR X (compareOp .Gt) oGt := oC_of op_gt
theorem o_ge {X : Cx} : OpR X (compareOp .GtE) oGe := oC_of op_ge
def oIsN : R2 := fun x y H Q => y = .non ∧ Q (.bl (match x with | .non => true | _ => false)) H
def oNotN : R2 := fun x y H Q => y = .non ∧ Q (.bl (match x with | .non => false | _ => true)) H
theorem o_isN {X : Cx} : OpR X (compareOp .Is) oIsN := OpR.of op_isN fun x y H Q q => ⟨q.1, by cases x <;> exact q.2⟩
theorem o_notN {X : Cx} : OpR X (compareOp .IsNot) oNotN := OpR.of op_notN fun x y H Q q => ⟨q.1, by cases x <;> exact q.2⟩
/-- two data compared -/
structure EqD (K : Frag) (H : Hp) (x y : V) (k : Bool → Prop) : Prop where
  ex : ∃ d e, Dp K H x d ∧ Dp K H y e ∧ SeqAt.shaped d = true ∧ SeqAt.shaped e = true ∧ k (PyData.eqv d e)
/-- == of scalars and of data -/
def oEq (K : Frag) : R2 := fun x y H Q => match x, y with
  | .int i, .int j => Q (.bl (decide (i = j))) H
  | .str i, .str j => Q (.bl (decide (i = j))) H
  | .bl i, .bl j => Q (.bl (decide (i = j))) H
  | .non, .non => Q (.bl true) H
  | .non, .int _ => Q (.bl false) H
  | .int _, .non => Q (.bl false) H
  | .non, .bl _ => Q (.bl false) H
  | .bl _, .non => Q (.bl false) H
  | .non, .str _ => Q (.bl false) H
  | .str _, .non => Q (.bl false) H
  | .int _, .str _ => Q (.bl false) H
  | .str _, .int _ => Q (.bl false) H
  | x, y => EqD K H x y fun b => Q (.bl b) H
def oNe (K : Frag) : R2 := fun x y H Q => oEq K x y H fun v H' => match v with
  | .bl b => Q (.bl (!b)) H'
  | _ => False
theorem o_eq {X : Cx} (hu : X.A.units + 64 < cLine) : OpR X (compareOp .Eq) (oEq X.K) := OpR.of (op_eq.or (op_eqD hu)) fun x y H Q q => by
  cases x <;> cases y <;> first
    | exact .inr q.ex
    | (refine .inl ⟨rfl, ?_⟩; refine Eq.mp (congrArg (fun b => Q (V.bl b) H) ?_) q; simp)
theorem o_ne {X : Cx} (hu : X.A.units + 64 < cLine) : OpR X (compareOp .NotEq) (oNe X.K) := OpR.of (op_ne.or (op_neD hu)) fun x y H Q q => by
  cases x <;> cases y <;> first
    | exact .inr q.ex
    | (refine .inl ⟨rfl, ?_⟩; refine Eq.mp (congrArg (fun b => Q (V.bl b) H) ?_) q; simp)
/-! ### comparisons as tests, chains -/
def dCmp (r : R2) (ta tb : TE) : TE := tOp r ta tb
def isB (Q : Bool → Hp → Prop) : VK := fun z H => match z with
  | .bl k => Q k H
  | _ => False
theorem isB_ex {Q : Bool → Hp → Prop} {z : V} {H : Hp} (h : isB Q z H) : ∃ k, z = .bl k ∧ Q k H := by
  cases z <;> try exact h.elim
  exact ⟨_, rfl, h⟩
def dCmpT (r : R2) (ta tb : TE) : TT := fun σ H Q => ta σ H fun x H1 => tb σ H1 fun y H2 => r x y H2 (isB Q)
theorem pt_cmp {X : Cx} {op : CmpOp} {a b : Expr} {ta tb : TE} {pos : Pos} {r : R2} (ho : OpR X (compareOp op) r) (ha : PE X a ta) (hb : PE X b tb) (hm : behindInMarks op b = false) : PT X (.Compare a [op] [b] pos) (dCmpT r ta tb) := by
  refine ⟨fun pins s σ H Q I h => ?_⟩
  refine wpAny_isTrue_Compare1 (thn (ha.run pins s σ H _ I h) fun v s1 ⟨x, H1, I1, r1, q1⟩ => thn (hb.run pins s1 σ H1 _ I1 q1) fun u s2 ⟨y, H2, I2, r2, q2⟩ =>
    thn (ho pins s2 σ H2 x y v u _ I2 r1 r2 q2) fun c s3 ⟨z, H3, I3, r3, q3⟩ => ?_) hm
  obtain ⟨k, e, q3⟩ := isB_ex q3
  subst e
  cases r3
  exact wpAny_truthy_bool ⟨H3, I3, q3⟩
def dChain (r r' : R2) (ta tb tc : TE) : TE := fun σ H Q => ta σ H fun x H1 => tb σ H1 fun y H2 => r x y H2 (isB fun k H3 => bIf k (tc σ H3 fun w' H4 => r' y w' H4 Q) (Q (.bl false) H3))
def dChainT (r r' : R2) (ta tb tc : TE) : TT := fun σ H Q => dChain r r' ta tb tc σ H (isB Q)
theorem pe_cmp {X : Cx} {op : CmpOp} {a b : Expr} {ta tb : TE} {pos : Pos} {r : R2} (ho : OpR X (compareOp op) r) (ha : PE X a ta) (hb : PE X b tb) (hm : behindInMarks op b = false) : PE X (.Compare a [op] [b] pos) (tOp r ta tb) := pe_cmpR ho ha hb hm
theorem pe_chain {X : Cx} {op op' : CmpOp} {a b c : Expr} {r r' : R2} {ta tb tc : TE} {pos : Pos} (ho : OpR X (compareOp op) r) (ho' : OpR X (compareOp op') r') (ha : PE X a ta) (hb : PE X b tb) (hc : PE X c tc)
    (hm : lastMarks [op, op'] [b, c] = false := by with_unfolding_all rfl) : PE X (.Compare a [op, op'] [b, c] pos) (dChain r r' ta tb tc) := by
  refine ⟨fun pins s σ H Q I h => ?_⟩
  refine Compare_chain (thn (ha.run pins s σ H _ I h) fun v s1 ⟨x, H1, I1, r1, q1⟩ => chain_link (thn (hb.run pins s1 σ H1 _ I1 q1) fun u s2 ⟨y, H2, I2, r2, q2⟩ =>
    thn (ho pins s2 σ H2 x y v u _ I2 r1 r2 q2) fun d s3 ⟨z, H3, I3, r3, q3⟩ => ?_)) hm
  obtain ⟨k, e, q3⟩ := isB_ex q3
  subst e
  cases r3
  refine wpAny_truthy_bool ?_
  cases k with
  | false => exact ite_ff ⟨.bl false, H3, I3, rfl, q3⟩
  | true => exact ite_tt (chain_last (thn (hc.run pins s3 σ H3 _ I3 q3) fun w' s4 ⟨z', H4, I4, r4, q4⟩ => ho' pins s4 σ H4 y z' u w' Q I4 r2 r4 q4))
theorem pt_chain {X : Cx} {op op' : CmpOp} {a b c : Expr} {r r' : R2} {ta tb tc : TE} {pos : Pos} (ho : OpR X (compareOp op) r) (ho' : OpR X (compareOp op') r') (ha : PE X a ta) (hb : PE X b tb) (hc : PE X c tc)
    (hm : lastMarks [op, op'] [b, c] = false := by with_unfolding_all rfl) : PT X (.Compare a [op, op'] [b, c] pos) (dChainT r r' ta tb tc) := by
  refine ⟨fun pins s σ H Q I h => ?_⟩
  refine isTrue_chain (thn (ha.run pins s σ H _ I h) fun v s1 ⟨x, H1, I1, r1, q1⟩ => test_link (thn (hb.run pins s1 σ H1 _ I1 q1) fun u s2 ⟨y, H2, I2, r2, q2⟩ =>
    thn (ho pins s2 σ H2 x y v u _ I2 r1 r2 q2) fun d s3 ⟨z, H3, I3, r3, q3⟩ => ?_)) hm
  obtain ⟨k, e, q3⟩ := isB_ex q3
  subst e
  cases r3
  refine wpAny_truthy_bool ?_
  cases k with
  | false => exact ite_ff ⟨H3, I3, q3⟩
  | true =>
    refine ite_tt (test_last (thn (hc.run pins s3 σ H3 _ I3 q3) fun w' s4 ⟨z', H4, I4, r4, q4⟩ => thn (ho' pins s4 σ H4 y z' u w' _ I4 r2 r4 q4) fun d' s5 ⟨z2, H5, I5, r5, q5⟩ => ?_))
    obtain ⟨k2, e2, q5⟩ := isB_ex q5
    subst e2
    cases r5
    exact wpAny_truthy_bool ⟨H5, I5, q5⟩
theorem pw_and {X : Cx} {a b : Expr} {rest : List Expr} {tA tB' : TT} {pos : Pos} (ha : PT X a tA) (hb : PW X (.BoolOp .And (b :: rest) pos) tB') : PW X (.BoolOp .And (a :: b :: rest) pos) (dAnd tA tB') := by
  refine ⟨fun wh pins s σ H Q I h => ?_⟩
  refine isTrue_and (thn (ha.run pins s σ H _ I h) fun c s1 ⟨H1, I1, q1⟩ => ?_)
  cases c with
  | true => exact hb.run wh pins s1 σ H1 Q I1 q1
  | false => exact ⟨H1, I1, q1⟩
theorem pw_or {X : Cx} {a b : Expr} {rest : List Expr} {tA tB' : TT} {pos : Pos} (ha : PT X a tA) (hb : PW X (.BoolOp .Or (b :: rest) pos) tB') : PW X (.BoolOp .Or (a :: b :: rest) pos) (dOr tA tB') := by
  refine ⟨fun wh pins s σ H Q I h => ?_⟩
  refine isTrue_or (thn (ha.run pins s σ H _ I h) fun c s1 ⟨H1, I1, q1⟩ => ?_)
  cases c with
  | true => exact ⟨H1, I1, q1⟩
  | false => exact hb.run wh pins s1 σ H1 Q I1 q1
theorem pt_not {X : Cx} {a : Expr} {tA : TT} {pos : Pos} (ha : PT X a tA) : PT X (.UnaryOp .Not a pos) (dNot tA) := L2.pt_not ha
theorem pe_ifE {X : Cx} {c a b : Expr} {tA : TT} {ta tb : TE} {pos : Pos} (hc : PT X c tA) (ha : PE X a ta) (hb : PE X b tb) : PE X (.IfExp c a b pos) (dIfE tA ta tb) := by
  refine ⟨fun pins s σ H Q I h => ?_⟩
  refine wpAny_IfExp (thn (hc.run pins s σ H _ I h) fun d s1 ⟨H1, I1, q1⟩ => ?_)
  cases d with
  | true => exact ha.run pins s1 σ H1 Q I1 q1
  | false => exact hb.run pins s1 σ H1 Q I1 q1
theorem ps_if {X : Cx} {c : Expr} {a b : List Stmt} {tc : TT} {t u : TS} {pos : Pos} (hc : PT X c tc) (ha : PSs X a t) (hb : PSs X b u) : PS X (.If c a b pos) (dIfS tc t u) := by
  refine ⟨fun pins s σ H D I h => ?_⟩
  refine wpAny_If (thn (hc.run pins s σ H _ I h) fun d s1 ⟨H1, I1, q1⟩ => ?_)
  cases d with
  | true => exact ha.run pins s1 σ H1 D I1 q1
  | false => exact hb.run pins s1 σ H1 D I1 q1
/-- and, or as values: all but the last True or False -/
def dAndV (ta tb : TE) : TE := fun σ H Q => ta σ H (isB fun c H1 => bIf c (tb σ H1 Q) (Q (.bl false) H1))
def dOrV (ta tb : TE) : TE := fun σ H Q => ta σ H (isB fun c H1 => bIf c (Q (.bl true) H1) (tb σ H1 Q))
def dNotV (ta : TE) : TE := fun σ H Q => ta σ H (isB fun c H1 => Q (.bl (!c)) H1)
theorem pe_and {X : Cx} {a b : Expr} {rest : List Expr} {ta tb : TE} {pos : Pos} (ha : PE X a ta) (hb : PE X (.BoolOp .And (b :: rest) pos) tb) : PE X (.BoolOp .And (a :: b :: rest) pos) (dAndV ta tb) := by
  refine ⟨fun pins s σ H Q I h => ?_⟩
  refine BoolOp_and (thn (ha.run pins s σ H _ I h) fun v s1 ⟨x, H1, I1, r1, q1⟩ => ?_)
  obtain ⟨c, e, q⟩ := isB_ex q1
  subst e
  cases r1
  refine wpAny_truthy_bool ?_
  cases c with
  | true => exact hb.run pins s1 σ H1 Q I1 q
  | false => exact ⟨.bl false, H1, I1, rfl, q⟩
theorem pe_or {X : Cx} {a b : Expr} {rest : List Expr} {ta tb : TE} {pos : Pos} (ha : PE X a ta) (hb : PE X (.BoolOp .Or (b :: rest) pos) tb) : PE X (.BoolOp .Or (a :: b :: rest) pos) (dOrV ta tb) := by
  refine ⟨fun pins s σ H Q I h => ?_⟩
  refine BoolOp_or (thn (ha.run pins s σ H _ I h) fun v s1 ⟨x, H1, I1, r1, q1⟩ => ?_)
  obtain ⟨c, e, q⟩ := isB_ex q1
  subst e
  cases r1
  refine wpAny_truthy_bool ?_
  cases c with
  | true => exact ⟨.bl true, H1, I1, rfl, q⟩
  | false => exact hb.run pins s1 σ H1 Q I1 q
theorem pe_not {X : Cx} {a : Expr} {ta : TE} {pos : Pos} (ha : PE X a ta) : PE X (.UnaryOp .Not a pos) (dNotV ta) := by
  refine ⟨fun pins s σ H Q I h => ?_⟩
  refine UnaryOp_ (thn (ha.run pins s σ H _ I h) fun v s1 ⟨x, H1, I1, r1, q1⟩ => ?_)
  obtain ⟨c, e, q⟩ := isB_ex q1
  subst e
  cases r1
  exact not_of (wpAny_truthy_bool ⟨.bl (!c), H1, I1, rfl, q⟩)
/-! ### subscripts, slices -/
/-- the sign at i -/
structure AtS (z : Str) (i : Int) (k : Nat → Prop) : Prop where
  ex : ∃ c, atI z.cps.toList i = some c ∧ k c
def oIx (K : Frag) : R2 := fun x y H Q => match x, y with
  | .ref p, .int i => Rd K H p fun xs => At xs i fun v => Q v H
  | .str z, .int i => Need (z.length ≤ sizeLine) (AtS z i fun c => Q (.str ⟨#[c]⟩) H)
  | _, _ => False
theorem ix_any {X : Cx} : IxR X (oIx X.K) := IxR.of ix_seq fun x y H Q q => by
  cases x <;> cases y <;> try exact q.elim
  · obtain ⟨hz, ⟨c, e, q⟩⟩ := q
    exact .inr (.inr ⟨_, _, c, rfl, rfl, hz, e, q⟩)
  · obtain ⟨⟨xs, hs, ⟨v, e, q⟩⟩⟩ := q
    rcases hs with hs | hs
    · exact .inl ⟨_, xs, _, v, rfl, rfl, hs, e, q⟩
    · exact .inr (.inl ⟨_, xs, _, v, rfl, rfl, hs, e, q⟩)
def dPart (t : TE) : TO := fun σ H Q => t σ H fun x H1 => match x with
  | .int i => Q (some i) H1
  | _ => False
theorem po_some {X : Cx} {e : Expr} {te : TE} (h : PE X e te) : PO X (some e) (dPart te) := by
  refine ⟨fun pins s σ H Q I q => ?_⟩
  rw [evalPart_some]
  refine thn (h.run pins s σ H _ I q) fun u s1 ⟨x, H1, I1, r1, q1⟩ => ?_
  cases x <;> try exact q1.elim
  obtain ⟨t, rfl⟩ := r1
  exact ⟨_, H1, I1, .int _ t, q1⟩
/-- a slice of the list, of the tuple at p -/
structure Cut (K : Frag) (H : Hp) (p : Addr) (lo hi : Option Int) (Q : V → Hp → Prop) : Prop where
  ex : (∃ xs, SqL K H p xs ∧ ∀ q, H q = none → Q (.ref q) (upd H q (.lst (cutV xs lo hi)))) ∨ (∃ xs, SqT K H p xs ∧ ∀ q H', Same H H' → SqT K H' q (cutV xs lo hi) → Q (.ref q) H')
theorem Cut.l {K : Frag} {H : Hp} {p : Addr} {lo hi : Option Int} {Q : V → Hp → Prop} {xs : List V} (h : SqL K H p xs) (q : ∀ q, H q = none → Q (.ref q) (upd H q (.lst (cutV xs lo hi)))) : Cut K H p lo hi Q := ⟨.inl ⟨xs, h, q⟩⟩
theorem Cut.t {K : Frag} {H : Hp} {p : Addr} {lo hi : Option Int} {Q : V → Hp → Prop} {xs : List V} (h : SqT K H p xs) (q : ∀ q H', Same H H' → SqT K H' q (cutV xs lo hi) → Q (.ref q) H') : Cut K H p lo hi Q := ⟨.inr ⟨xs, h, q⟩⟩
def oSl (K : Frag) : V → Option Int → Option Int → Hp → VK → Prop := fun x lo hi H Q => match x with
  | .ref p => Cut K H p lo hi Q
  | _ => False
theorem SlR.of {X : Cx} {r r' : V → Option Int → Option Int → Hp → VK → Prop} (h : SlR X r) (i : ∀ x l u H Q, r' x l u H Q → r x l u H Q) : SlR X r' := fun pins s σ H x v vl vu lo hi sl Q I rx hs pl pu q => h pins s σ H x v vl vu lo hi sl Q I rx hs pl pu (i x lo hi H Q q)
theorem cut_whole {xs : List V} {lo hi : Option Int} (h : HT.sIx xs.length 0 lo = 0 ∧ HT.sIx xs.length xs.length hi = xs.length) : cutV xs lo hi = xs := by
  unfold cutV
  rw [h.1, h.2]
  simp
theorem sl_any {X : Cx} : SlR X (oSl X.K) := SlR.of (sl_list.or sl_tupA) fun x lo hi H Q q => by
  cases x <;> try exact q.elim
  rcases q.ex with ⟨xs, h, q⟩ | ⟨xs, h, q⟩
  · exact .inl ⟨_, xs, rfl, h, q⟩
  · refine .inr ⟨_, xs, rfl, h, fun w => ?_, fun _ p hp => q _ _ (same_new hp) (SqT.of upd_same)⟩
    exact q _ _ (Same.refl _) (by rw [cut_whole w]; exact h)
/-! ### displays -/
def dLst (t : TA) : TE := fun σ H Q => t σ H fun xs H1 => Need (xs.length ≤ sizeLine) (NewL H1 xs Q)
def dTup (K : Frag) (t : TA) : TE := fun σ H Q => t σ H fun xs H1 => Need (xs.length ≤ sizeLine) (NewT K H1 xs Q)
theorem pe_tup {X : Cx} {es : List Expr} {t : TA} {x1} {pos : Pos} (h : PA X es t) : PE X (.Tuple es x1 pos) (dTup X.K t) := by
  refine ⟨fun pins s σ H Q I hq => ?_⟩
  refine wpAny_Tuple_spliced (thn (h.run pos pins s σ H _ I hq) fun us s1 ⟨xs, H1, I1, r, ⟨z, ⟨q⟩⟩⟩ => ⟨by rw [← r.length]; exact z, ?_⟩)
  have hf : H1 s1.heap.objs.size = none := I1.hok.fresh (Nat.le_refl _)
  refine ⟨.ref s1.heap.objs.size, upd H1 s1.heap.objs.size (.tup xs), I1.laid (t' := s1.toks) (fun b u e => Heap.get?_push_of_some _ e) (Nat.le_refl _) ?_, rfl, q _ _ (same_new hf) (SqT.of upd_same)⟩
  exact ⟨z, us, r, ⟨_, Heap.get?_push_size _ rfl, rfl, _, rfl⟩⟩
theorem pe_lst {X : Cx} {es : List Expr} {t : TA} {pos : Pos} (h : PA X es t) : PE X (.List es pos) (dLst t) := by
  refine ⟨fun pins s σ H Q I hq => ?_⟩
  refine wpAny_List_spliced (thn (h.run pos pins s σ H _ I hq) fun us s1 ⟨xs, H1, I1, r, ⟨z, ⟨q⟩⟩⟩ => ⟨by rw [← r.length]; exact z, ?_⟩)
  have hf : H1 s1.heap.objs.size = none := I1.hok.fresh (Nat.le_refl _)
  refine ⟨.ref s1.heap.objs.size, upd H1 s1.heap.objs.size (.lst xs), I1.laid (t' := s1.toks) (fun b u e => Heap.get?_push_of_some _ e) (Nat.le_refl _) ?_, rfl, q _ hf⟩
  exact ⟨z, us, 0, r, Heap.get?_push_size _ rfl⟩
/-! ### builtin calls -/
def cLen (K : Frag) : List V → Hp → VK → Prop := fun xs H Q => match xs with
  | [.str z] => Need (z.length ≤ sizeLine) (Q (.int z.length) H)
  | [.ref p] => Rd K H p fun ys => Q (.int ys.length) H
  | _ => False
theorem c_len {X : Cx} : CallR X (.builtin "len") (cLen X.K) := CallR.of (call_len_seq.or call_len_str) fun xs H Q q => by
  match xs, q with
  | [.str z], q => exact .inr ⟨z, rfl, q.c, q.q⟩
  | [.ref p], ⟨⟨ys, h, q⟩⟩ => exact .inl ⟨p, ys, rfl, h, q⟩
def cTuple (K : Frag) : List V → Hp → VK → Prop := fun xs H Q => match xs with
  | [.ref p] => Rd K H p fun ys => NewT K H ys Q
  | _ => False
theorem c_tuple {X : Cx} : CallR X (.type "tuple") (cTuple X.K) := CallR.of call_tuple_of fun xs H Q q => by
  match xs, q with
  | [.ref p], ⟨⟨ys, h, ⟨q⟩⟩⟩ =>
    refine ⟨p, ys, rfl, ?_⟩
    rcases h with h | h
    · exact .inl ⟨h, fun l hl => q _ _ (same_new hl) (SqT.of upd_same)⟩
    · exact .inr ⟨h, q _ _ (Same.refl _) h⟩
def cList (K : Frag) : List V → Hp → VK → Prop := fun xs H Q => match xs with
  | [.ref p] => Rd K H p fun ys => NewL H ys Q
  | _ => False
theorem c_list {X : Cx} : CallR X (.type "list") (cList X.K) := CallR.of call_list_of fun xs H Q q => by
  match xs, q with
  | [.ref p], ⟨⟨ys, h, ⟨q⟩⟩⟩ => exact ⟨p, ys, rfl, h, q⟩
def b2i (b : Bool) : Int := match b with
  | true => 1
  | false => 0
def cInt : List V → Hp → VK → Prop := fun xs H Q => match xs with
  | [.int i] => Q (.int i) H
  | [.bl b] => Q (.int (b2i b)) H
  | _ => False
theorem c_int {X : Cx} : CallR X (.type "int") cInt := CallR.of call_int1 fun xs H Q q => by
  match xs, q with
  | [.int i], q => exact .inl ⟨_, rfl, q⟩
  | [.bl b], q =>
    refine .inr ⟨_, rfl, ?_⟩
    cases b <;> exact q
def cAbs : List V → Hp → VK → Prop := fun xs H Q => match xs with
  | [.int i] => Q (.int (i.natAbs : Int)) H
  | _ => False
theorem c_abs {X : Cx} : CallR X (.builtin "abs") cAbs := CallR.of call_abs fun xs H Q q => by
  match xs, q with
  | [.int i], q =>
    refine ⟨_, rfl, ?_⟩
    have e : (if i < 0 then -i else i) = (i.natAbs : Int) := by split <;> omega
    rw [e]; exact q
def cMax2 : List V → Hp → VK → Prop := fun xs H Q => match xs with
  | [.int i, .int j] => Q (.int (max i j)) H
  | _ => False
theorem c_max2 {X : Cx} (hc : X.calm = true) : CallR X (.builtin "max") cMax2 := CallR.of (call_max2 hc) fun xs H Q q => by
  match xs, q with
  | [.int i, .int j], q =>
    refine ⟨_, _, rfl, ?_⟩
    have e : (if j > i then j else i) = max i j := by split <;> omega
    rw [e]; exact q
def cMin2 : List V → Hp → VK → Prop := fun xs H Q => match xs with
  | [.int i, .int j] => Q (.int (min i j)) H
  | _ => False
theorem c_min2 {X : Cx} (hc : X.calm = true) : CallR X (.builtin "min") cMin2 := CallR.of (call_min2 hc) fun xs H Q q => by
  match xs, q with
  | [.int i, .int j], q =>
    refine ⟨_, _, rfl, ?_⟩
    have e : (if j < i then j else i) = min i j := by split <;> omega
    rw [e]; exact q
/-- isinstance(x, T), one class -/
structure Isi (K : Frag) (H : Hp) (x : V) (u : Value) (k : Bool → Prop) : Prop where
  ex : ∃ t b, TyX K H x t ∧ PySem.W.kitOne K t u = some b ∧ k b
theorem Isi.of {K : Frag} {H : Hp} {x : V} {u t : Value} {b : Bool} {k : Bool → Prop} (h : TyX K H x t) (e : PySem.W.kitOne K t u = some b) (q : k b) : Isi K H x u k := ⟨t, b, h, e, q⟩
def cIsi (K : Frag) : List V → Hp → VK → Prop := fun xs H Q => match xs with
  | [x, .ty n] => Isi K H x (.type n) fun b => Q (.bl b) H
  | [x, .ref C] => Isi K H x (.ref C) fun b => Q (.bl b) H
  | _ => False
theorem c_isi {X : Cx} : CallR X (.builtin "isinstance") (cIsi X.K) := CallR.of call_isi fun xs H Q q => by
  match xs, q with
  | [x, .ty n], ⟨⟨t, b, h1, h2, q⟩⟩ => exact ⟨x, _, t, _, b, rfl, .ty n, h1, h2, q⟩
  | [x, .ref C], ⟨⟨t, b, h1, h2, q⟩⟩ => exact ⟨x, _, t, _, b, rfl, .own C, h1, h2, q⟩
/-! ### methods of lists -/
/-- a list stands at p -/
structure IsL (K : Frag) (H : Hp) (p : Addr) (q : Prop) : Prop where
  ex : ∃ xs, SqL K H p xs
  q : q
theorem IsL.of {K : Frag} {H : Hp} {p : Addr} {q : Prop} {xs : List V} (h : H p = some (.lst xs)) (q1 : q) : IsL K H p q := ⟨⟨xs, SqL.of h⟩, q1⟩
def dML (K : Frag) (r : V → List V → Hp → VK → Prop) (to : TE) (t : TA) : TE := fun σ H Q => to σ H fun x H1 => match x with
  | .ref l => IsL K H1 l (t σ H1 fun vs H2 => r (.ref l) vs H2 Q)
  | _ => False
theorem pe_ml {X : Cx} {o e : Expr} {es : List Expr} {to : TE} {t : TA} {name : Str} {apos cpos : Pos} {id : String} {r : V → List V → Hp → VK → Prop} (slot : Slot "list" name id) (hty : typeOf (.builtin id) = pure (.type "method_descriptor")) (hm : MtR X id r) (ho : PE X o to) (ha : PA X (e :: es) t)
    (hbase : attributeBase o name X.env (eval o X.env) = eval o X.env := by rfl)
    (hfew : ((backTo cpos (starEach (e :: es) X.env)).all (fun x => !x.1) && (backToKw cpos (keywordEach [] X.env)).all (fun x => x.1.isSome)
      && decide ((e :: es).length + ([] : List Keyword).length + (if ([] : List Keyword).isEmpty then 0 else 1) < 30)) = true := by rfl)
    (hline : (apos.endLine == cpos.line) = true := by rfl) (hs : starEach (e :: es) X.env = (false, eval e X.env) :: starEach es X.env := by rfl) (hplain : (backTo cpos (starEach es X.env)).any (·.1) = false := by rfl) :
    PE X (.Call (.Attribute o name apos) (e :: es) [] cpos) (dML X.K r to t) := by
  refine ⟨fun pins s σ H Q I h => ?_⟩
  refine wpAny_Call_method_late hbase hfew hline rfl (thn (ho.run pins s σ H _ I h) fun v s1 ⟨x, H1, I1, r1, q1⟩ => ?_)
  cases x <;> try exact q1.elim
  obtain ⟨hx, q1⟩ := q1
  obtain ⟨h1, h2⟩ := tyV_is (T := "list") I1 r1 (.inl ⟨rfl, hx⟩)
  refine ⟨"list", id, PySem.F.plainAttrs_list, slot, hty, h1, h2, ?_⟩
  have hA := ha.run cpos pins s1 σ H1 _ I1 q1
  rw [hs] at hA ⊢
  refine Calls.callWith_builtin (by show (false || (backTo cpos (starEach es X.env)).any (·.1)) = false; rw [hplain] <;> rfl) (Calls.evalArgs_plain ?_)
  exact thn hA fun us s2 ⟨vs, H2, I2, r2, q2⟩ => hm pins s2 σ H2 _ vs _ us Q I2 r1 r2 q2
theorem pe_ml0 {X : Cx} {o : Expr} {to : TE} {name : Str} {apos cpos : Pos} {id : String} {r : V → List V → Hp → VK → Prop} (slot : Slot "list" name id) (hty : typeOf (.builtin id) = pure (.type "method_descriptor")) (hm : MtR X id r) (ho : PE X o to)
    (hbase : attributeBase o name X.env (eval o X.env) = eval o X.env := by rfl) (hline : (apos.endLine == cpos.line) = true := by rfl) : PE X (.Call (.Attribute o name apos) [] [] cpos) (dML X.K r to tNil) := by
  refine ⟨fun pins s σ H Q I h => ?_⟩
  refine wpAny_Call_method0_late hbase hline (thn (ho.run pins s σ H _ I h) fun v s1 ⟨x, H1, I1, r1, q1⟩ => ?_)
  cases x <;> try exact q1.elim
  obtain ⟨hx, q1⟩ := q1
  obtain ⟨h1, h2⟩ := tyV_is (T := "list") I1 r1 (.inl ⟨rfl, hx⟩)
  exact ⟨"list", id, PySem.F.plainAttrs_list, slot, hty, h1, h2, Calls.callWith_builtin rfl (PySem.evalArgs_none (hm pins s1 σ H1 _ [] _ [] Q I1 r1 .nil q1))⟩
theorem MtR.of {X : Cx} {id : String} {r r' : V → List V → Hp → VK → Prop} (h : MtR X id r) (i : ∀ x xs H Q, r' x xs H Q → r x xs H Q) : MtR X id r' := fun pins s σ H x xs v us Q I rx rs q => h pins s σ H x xs v us Q I rx rs (i x xs H Q q)
abbrev M2 := V → List V → Hp → VK → Prop
/-- the list at x changed -/
def mL (f : List V → List V → Hp → (V → List V → Prop) → Prop) : M2 := fun x vs H Q => match x with
  | .ref l => Ls H l fun xs => f xs vs H fun z ys => Q z (upd H l (.lst ys))
  | _ => False
def mApp : M2 := mL fun xs vs _ k => match vs with
  | [y] => Need (xs.length < sizeLine) (k .non (xs ++ [y]))
  | _ => False
theorem m_app {X : Cx} : MtR X "list.append" mApp := MtR.of mt_append fun x vs H Q q => by
  cases x <;> try exact q.elim
  match vs, q with
  | [y], ⟨⟨xs, h, ⟨hz, q⟩⟩⟩ => exact ⟨_, xs, y, rfl, rfl, h, hz, q⟩
theorem at_last {xs : List V} {y : V} (h : atI xs (-1) = some y) : xs[xs.length - 1]? = some y := by
  unfold atI ixN at h
  rw [if_neg (by decide)] at h
  by_cases hn : -(xs.length : Int) ≤ -1
  · rw [if_pos hn, Option.bind_some] at h
    have e : (-1 + (xs.length : Int)).toNat = xs.length - 1 := by omega
    rw [e] at h
    exact h
  · rw [if_neg hn] at h
    cases h
def mPop : M2 := mL fun xs vs _ k => match vs with
  | [] => At xs (-1) fun y => k y xs.dropLast
  | _ => False
theorem m_pop {X : Cx} : MtR X "list.pop" mPop := MtR.of mt_pop fun x vs H Q q => by
  cases x <;> try exact q.elim
  match vs, q with
  | [], ⟨⟨xs, h, ⟨y, hy, q⟩⟩⟩ => exact ⟨_, xs, y, rfl, rfl, h, at_last hy, q⟩
def mRev : M2 := mL fun xs vs _ k => match vs with
  | [] => k .non xs.reverse
  | _ => False
theorem m_rev {X : Cx} : MtR X "list.reverse" mRev := MtR.of mt_reverse fun x vs H Q q => by
  cases x <;> try exact q.elim
  match vs, q with
  | [], ⟨⟨xs, h, q⟩⟩ => exact ⟨_, xs, rfl, rfl, h, q⟩
def mIns : M2 := mL fun xs vs _ k => match vs with
  | [.int i, y] => Need (xs.length < sizeLine ∧ 0 ≤ i ∧ i < 2 ^ 63) (k .non (xs.take i.toNat ++ [y] ++ xs.drop i.toNat))
  | _ => False
theorem m_ins {X : Cx} : MtR X "list.insert" mIns := MtR.of mt_insert fun x vs H Q q => by
  cases x <;> try exact q.elim
  match vs, q with
  | [.int i, y], ⟨⟨xs, h, ⟨⟨hz, h0, h1⟩, q⟩⟩⟩ => exact ⟨_, xs, i, y, rfl, rfl, h, hz, h0, h1, q⟩
def mExt : M2 := mL fun xs vs H k => match vs with
  | [.ref b] => Ls H b fun zs => Need (xs.length + zs.length ≤ sizeLine) (k .non (xs ++ zs))
  | _ => False
theorem m_ext {X : Cx} : MtR X "list.extend" mExt := MtR.of mt_extend fun x vs H Q q => by
  cases x <;> try exact q.elim
  match vs, q with
  | [.ref b], ⟨⟨xs, h, ⟨⟨zs, h2, ⟨hz, q⟩⟩⟩⟩⟩ => exact ⟨_, b, xs, zs, rfl, rfl, h, h2, hz, q⟩
/-! ### stores -/
/-- the place i in n -/
structure Pl (n : Nat) (i : Int) (k : Nat → Prop) : Prop where
  ex : ∃ j, ixN n i = some j ∧ k j
theorem Pl.of {n : Nat} {i : Int} {k : Nat → Prop} {j : Nat} (h : ixN n i = some j) (q : k j) : Pl n i k := ⟨j, h, q⟩
def oSet : V → V → V → Hp → (Hp → Prop) → Prop := fun o i v H Q => match o, i with
  | .ref p, .int k => Ls H p fun xs => Pl xs.length k fun j => Q (upd H p (.lst (xs.set j v)))
  | _, _ => False
theorem s_list {X : Cx} : PSet X oSet := fun pins s σ H o i v uo ui uv Q I ro ri rv q => by
  cases o <;> cases i <;> try exact q.elim
  obtain ⟨⟨xs, h, ⟨j, e, q⟩⟩⟩ := q
  exact set_list pins s σ H _ _ v uo ui uv Q I ro ri rv ⟨_, xs, _, j, rfl, rfl, h, e, q⟩
/-! ### loops over a list or a tuple -/
/-- the list or the tuple at a is walked -/
structure Walk (K : Frag) (H : Hp) (a : Addr) (R : It → Hp → Prop) : Prop where
  ex : ((∃ xs, SqL K H a xs) ∧ R (Itl K a) H) ∨ ((∃ xs, SqT K H a xs) ∧ R (Itt K a) H)
def iSm (K : Frag) (x : V) (H : Hp) (R : It → Hp → Prop) : Prop := match x with
  | .ref a => Walk K H a R
  | _ => False
def iSeq (K : Frag) (tl : TE) : TI := fun σ H R => tl σ H fun x H1 => iSm K x H1 R
theorem pi_seq {X : Cx} {tg l : Expr} {tl : TE} (hl : PE X l tl) : PI X tg l (iSeq X.K tl) := by
  refine ⟨fun pins s σ H R I h => ?_⟩
  refine thn (hl.run pins s σ H _ I h) fun v s1 ⟨x, H1, I1, r1, q1⟩ => ?_
  cases x <;> try exact q1.elim
  cases r1
  rcases q1.ex with ⟨⟨xs, hq⟩, q⟩ | ⟨⟨xs, hq⟩, q⟩
  · obtain ⟨its, rv, p, hz⟩ := I1.list hq
    refine wpAny_pyIter_list p.isList ?_
    refine ⟨s1.heap.objs.size, [s1.heap.objs.size], _, _, H1, rfl, I1.kept (t' := s1.toks) fun b o e => Heap.get?_push_of_some _ e, turn_list _ _, ⟨_, Heap.get?_push_size _ rfl, rfl, rfl⟩, fun b hb => ?_, q⟩
    have e : b = s1.heap.objs.size := by simpa using hb
    subst e
    exact I1.fpOk (Nat.le_refl _) (I1.hok.fresh (Nat.le_refl _))
  · obtain ⟨its, rv, p, hz⟩ := I1.tuple hq
    refine wpAny_pyIter_tuple (show s1.heap.IsTuple _ its.toArray from p) ?_
    refine ⟨s1.heap.objs.size, [s1.heap.objs.size], _, _, H1, rfl, I1.kept (t' := s1.toks) fun b o e => Heap.get?_push_of_some _ e, turn_tuple _ _, ⟨_, Heap.get?_push_size _ rfl, rfl, rfl⟩, fun b hb => ?_, q⟩
    have e : b = s1.heap.objs.size := by simpa using hb
    subst e
    exact I1.fpOk (Nat.le_refl _) (I1.hok.fresh (Nat.le_refl _))
/-- what a loop asks of its walk -/
def LoopR (D : Ends) (g : TG) (tb : TS) (σ : L2.St) : It → Hp → Prop := fun J H1 => ∃ W : Nat → Nat → L2.St → Hp → Prop, (∃ m, W 0 m σ H1) ∧ ∀ i m σ H, W i m σ H →
  (J.stop i H ∧ D.nx σ H) ∨ (J.go i H ∧ ∃ N : L2.St → Hp → Prop, (∀ σ' H', N σ' H' → ∃ m', m' < m ∧ W (i + 1) m' σ' H') ∧ ∀ x H', J.yld i H x H' → g x σ H' fun σ2 H2 => tb { D with nx := N, ct := N, bk := D.nx } σ2 H2)
def dFor (wi : TI) (g : TG) (tb : TS) : TS := fun D σ H => wi σ H (LoopR D g tb σ)
theorem ps_for {X : Cx} {tg iter : Expr} {body : List Stmt} {wi : TI} {g : TG} {tb : TS} {pos : Pos} (hp : PassesOwn (model X.prog X.w) X.A X.env X.xe) (hc : X.calm = true) (hi : PI X tg iter wi) (hg : PG X tg g) (hb : PSs X body tb)
    (hs : ∀ x, foldedSetIterable iter X.env x = pure x := by intro _; rfl) : PS X (.For tg iter body [] pos) (dFor wi g tb) := L2.ps_for hp hc hi hg hb hs
/-- the sequence at p stands as it stood -/
def Stay (K : Frag) (p : Addr) (H H' : Hp) : Prop := ∀ xs, (SqL K H p xs → SqL K H' p xs) ∧ (SqT K H p xs → SqT K H' p xs)
theorem Same.tup {K : Frag} {H H' : Hp} {a : Addr} {xs : List V} (e : Same H H') (h : SqT K H a xs) : SqT K H' a xs := by
  rcases h with (h | ⟨o, h⟩) | h
  · exact .inl (.inl (e _ _ h))
  · exact .inl (.inr ⟨o, e _ _ h⟩)
  · exact .inr h
theorem Same.sqa {K : Frag} {H H' : Hp} {a : Addr} {xs : List V} (e : Same H H') (h : SqA K H a xs) : SqA K H' a xs := h.imp e.seq (Same.tup e)
theorem Same.stay {K : Frag} {H H' : Hp} {a : Addr} (e : Same H H') : Stay K a H H' := fun _ => ⟨e.seq, Same.tup e⟩
/-- all but what stands at st stays -/
def SameX (st : Addr) (H H' : Hp) : Prop := ∀ b o, H b = some o → b ≠ st → H' b = some o
theorem SameX.refl (st : Addr) (H : Hp) : SameX st H H := fun _ _ h _ => h
theorem SameX.trans {st : Addr} {H H1 H2 : Hp} (a : SameX st H H1) (b : SameX st H1 H2) : SameX st H H2 := fun c o h n => b c o (a c o h n) n
theorem SameX.then {st : Addr} {H H1 H2 : Hp} (a : SameX st H H1) (b : Same H1 H2) : SameX st H H2 := fun c o h n => b c o (a c o h n)
theorem Same.thenX {st : Addr} {H H1 H2 : Hp} (a : Same H H1) (b : SameX st H1 H2) : SameX st H H2 := fun c o h n => b c o (a c o h) n
theorem Same.x {st : Addr} {H H1 : Hp} (a : Same H H1) : SameX st H H1 := fun c o h _ => a c o h
theorem SameX.upd {st : Addr} {H : Hp} {o : HO} : SameX st H (upd H st o) := fun b u h n => by rw [upd_ne n]; exact h
/-- what st was made behind H0 -/
theorem SameX.same {st : Addr} {H0 H H' : Hp} (a : Same H0 H) (b : SameX st H H') (n : H0 st = none) : Same H0 H' := fun c o h => b c o (a c o h) (ne_of_none h n)
theorem SameX.seq {K : Frag} {st : Addr} {H H' : Hp} {a : Addr} {xs : List V} (e : SameX st H H') (h : SqL K H a xs) (n : a ≠ st) : SqL K H' a xs := by
  rcases h with (h | ⟨o, h⟩) | h
  · exact .inl (.inl (e _ _ h n))
  · exact .inl (.inr ⟨o, e _ _ h n⟩)
  · exact .inr h
theorem SameX.tup {K : Frag} {st : Addr} {H H' : Hp} {a : Addr} {xs ys : List V} (e : SameX st H H') (h : SqT K H a xs) (hst : H st = some (.lst ys)) : SqT K H' a xs := by
  rcases h with (h | ⟨o, h⟩) | h
  · exact .inl (.inl (e _ _ h (ne_of h hst (by intro z; cases z))))
  · exact .inl (.inr ⟨o, e _ _ h (ne_of h hst (by intro z; cases z))⟩)
  · exact .inr h
theorem sl_upd {K : Frag} {H : Hp} {a p : Addr} {o : HO} {xs : List V} (h : SqL K H a xs) (n : a ≠ p) : SqL K (upd H p o) a xs := by
  rcases h with (h | ⟨u, h⟩) | h
  · exact .inl (.inl (by rw [upd_ne n]; exact h))
  · exact .inl (.inr ⟨u, by rw [upd_ne n]; exact h⟩)
  · exact .inr h
theorem st_upd {K : Frag} {H : Hp} {a p : Addr} {o : HO} {xs : List V} (h : SqT K H a xs) (n : a ≠ p) : SqT K (upd H p o) a xs := by
  rcases h with (h | ⟨u, h⟩) | h
  · exact .inl (.inl (by rw [upd_ne n]; exact h))
  · exact .inl (.inr ⟨u, by rw [upd_ne n]; exact h⟩)
  · exact .inr h
theorem up_of {H : Hp} {a p : Addr} {o u : HO} (n : a ≠ p) (h : H a = some u) : upd H p o a = some u := by rw [upd_ne n]; exact h
theorem SameX.put {st : Addr} {H0 H1 : Hp} {o : HO} (e : SameX st H0 H1) : SameX st H0 (L2.upd H1 st o) := e.trans SameX.upd
theorem appS {K : Frag} {H H1 : Hp} {a st : Addr} {xs : List V} (h : ∀ H1, SameX st H H1 → SqL K H1 a xs) (e : SameX st H H1) : SqL K H1 a xs := h H1 e
/-- over a list or a tuple that the body leaves as it is -/
theorem for_seq {K : Frag} {p : Addr} {xs : List V} {g : TG} {tb : TS} {D : Ends} {σ : L2.St} {H : Hp} (Pv : Nat → L2.St → Hp → Prop) (hx : SqA K H p xs) (h0 : Pv 0 σ H) (hl : ∀ i σ H', i ≤ xs.length → Pv i σ H' → Stay K p H H')
    (hs : ∀ i x σ H, xs[i]? = some x → Pv i σ H → g x σ H fun σ2 H2 => tb { D with nx := Pv (i + 1), ct := Pv (i + 1), bk := D.nx } σ2 H2) (hd : ∀ σ H, Pv xs.length σ H → D.nx σ H) :
    Walk K H p (LoopR D g tb σ) := by
  rcases hx with hx | hx
  · exact ⟨.inl ⟨⟨xs, hx⟩, for_list Pv h0 (fun i σ H' hi q => (hl i σ H' hi q xs).1 hx) hs hd⟩⟩
  · exact ⟨.inr ⟨⟨xs, hx⟩, for_tup Pv h0 (fun i σ H' hi q => (hl i σ H' hi q xs).2 hx) hs hd⟩⟩
/-! ### ranges -/
def iR1 (vs : List V) (H : Hp) (R : It → Hp → Prop) : Prop := match vs with
  | [.int j] => Need (-(2 ^ 62) ≤ j ∧ j < 2 ^ 62) (R (Itr 0 j.toNat) H)
  | _ => False
def iRng (ta : TA) : TI := fun σ H R => ta σ H fun vs H1 => iR1 vs H1 R
theorem pi_rng {X : Cx} {tg a : Expr} {ta : TA} {p pos : Pos} (hg : Gl X "range") (hm : X.mg "range" = none) (ha : PA X [a] ta) (hs : starEach [a] X.env = [(false, eval a X.env)] := by rfl) : PI X tg (.Call (.Name "range" p) [a] [] pos) (iRng ta) := by
  refine ⟨fun pins s σ H R I h => ?_⟩
  refine Call_ (ld_blt I hg hm boot_range (PyProof.Rows.callWith_type1 (thn (ha.run pos pins s σ H _ I h) fun us s1 ⟨vs, H1, I1, r1, q1⟩ => ?_) hs rfl))
  match vs, q1 with
  | [.int j], ⟨⟨q1, q2⟩, q⟩ =>
    cases r1 with
    | cons r rr =>
      cases rr
      obtain ⟨t, rfl⟩ := r
      exact call_range_1 (range_it I1 (by omega) (by omega) q1 q2 (by simpa using q))
def iR2 (vs : List V) (H : Hp) (R : It → Hp → Prop) : Prop := match vs with
  | [.int i, .int j] => Need (-(2 ^ 62) ≤ i ∧ i < 2 ^ 62 ∧ -(2 ^ 62) ≤ j ∧ j < 2 ^ 62) (R (Itr i (j - i).toNat) H)
  | _ => False
def iRngB (ta : TA) : TI := fun σ H R => ta σ H fun vs H1 => iR2 vs H1 R
theorem pi_rngB {X : Cx} {tg a b : Expr} {ta : TA} {p pos : Pos} (hg : Gl X "range") (hm : X.mg "range" = none) (ha : PA X [a, b] ta) (hs : starEach [a, b] X.env = [(false, eval a X.env), (false, eval b X.env)] := by rfl) (hs2 : starEach [b] X.env = [(false, eval b X.env)] := by rfl) :
    PI X tg (.Call (.Name "range" p) [a, b] [] pos) (iRngB ta) := by
  refine ⟨fun pins s σ H R I h => ?_⟩
  refine Call_ (ld_blt I hg hm boot_range (PyProof.Rows.callWith_type1 (thn (ha.run pos pins s σ H _ I h) fun us s1 ⟨vs, H1, I1, r1, q1⟩ => ?_) (by rw [hs, hs2]) (by rw [hs2]; rfl)))
  match vs, q1 with
  | [.int i, .int j], ⟨⟨q1, q2, q3, q4⟩, q⟩ =>
    cases r1 with
    | cons r rr =>
      cases rr with
      | cons r' rr =>
        cases rr
        obtain ⟨t, rfl⟩ := r
        obtain ⟨t', rfl⟩ := r'
        exact call_range_2 (range_it I1 q1 q2 q3 q4 q)
theorem for_rngB {a b : Int} {g : TG} {tb : TS} {D : Ends} {σ : L2.St} {H : Hp} (Pv : Nat → L2.St → Hp → Prop) (h0 : Pv 0 σ H)
    (hs : ∀ (i : Nat) σ H, a + (i : Int) < b → Pv i σ H → g (.int (a + i)) σ H fun σ2 H2 => tb { D with nx := Pv (i + 1), ct := Pv (i + 1), bk := D.nx } σ2 H2) (hd : ∀ σ H, Pv (b - a).toNat σ H → D.nx σ H) :
    LoopR D g tb σ (Itr a (b - a).toNat) H := L2.for_range (lo := a) Pv h0 (fun i σ H hi q => hs i σ H (by omega) q) hd
theorem for_rng {n : Int} {g : TG} {tb : TS} {D : Ends} {σ : L2.St} {H : Hp} (Pv : Nat → L2.St → Hp → Prop) (h0 : Pv 0 σ H)
    (hs : ∀ (i : Nat) σ H, (i : Int) < n → Pv i σ H → g (.int i) σ H fun σ2 H2 => tb { D with nx := Pv (i + 1), ct := Pv (i + 1), bk := D.nx } σ2 H2) (hd : ∀ σ H, Pv n.toNat σ H → D.nx σ H) :
    LoopR D g tb σ (Itr 0 n.toNat) H := by
  refine L2.for_range (lo := 0) Pv h0 (fun i σ H hi q => ?_) hd
  have z := hs i σ H (by omega) q
  rw [Int.zero_add]; exact z
/-! ### while -/
def WhileR (c : TT) (tb : TS) (D : Ends) (σ : L2.St) (H : Hp) : Prop := ∃ W : Nat → L2.St → Hp → Prop, (∃ m, W m σ H) ∧ ∀ m σ H, W m σ H →
  c σ H fun b H1 => bIf b (tb { D with nx := fun σ' H' => ∃ m', m' < m ∧ W m' σ' H', ct := fun σ' H' => ∃ m', m' < m ∧ W m' σ' H', bk := D.nx } σ H1) (D.nx σ H1)
structure Loop (c : TT) (tb : TS) (D : Ends) (σ : L2.St) (H : Hp) : Prop where
  ex : WhileR c tb D σ H
def dWhile (c : TT) (tb : TS) : TS := fun D σ H => Loop c tb D σ H
theorem ps_while {X : Cx} {c : Expr} {body : List Stmt} {tc : TT} {tb : TS} {pos : Pos} (hp : PassesOwn (model X.prog X.w) X.A X.env X.xe) (hc : PT X c tc) (hb : PSs X body tb) : PS X (.While c body [] pos) (dWhile tc tb) := by
  refine ⟨fun pins s σ H D I h => ?_⟩
  obtain ⟨⟨W, ⟨m0, w0⟩, turn⟩⟩ := h
  refine wpAny_While (codeAny_whileLoop (fun n s' => ∃ σ' H', Inv X pins σ' H' s' ∧ W n σ' H') ?_ m0 ⟨σ, H, I, w0⟩)
  rintro n s1 ⟨σ1, H1, I1, w1⟩
  refine wpAny_passesOwn hp (thn (hc.run pins s1 σ1 H1 _ I1 (turn n σ1 H1 w1)) fun b s2 ⟨H2, I2, q2⟩ => ?_)
  cases b with
  | true =>
    rw [if_pos rfl]
    refine wpAny_passesOwn hp (thn (hb.run pins s2 σ1 H2 _ I2 q2) fun f s3 q3 => ?_)
    cases f with
    | next =>
      obtain ⟨σ3, H3, I3, m', hm, w3⟩ := q3
      exact ⟨m', hm, σ3, H3, I3, w3⟩
    | cont =>
      obtain ⟨σ3, H3, I3, m', hm, w3⟩ := q3
      exact ⟨m', hm, σ3, H3, I3, w3⟩
    | brk => exact q3
    | ret v => exact q3
  | false =>
    rw [if_neg Bool.false_ne_true]
    exact wpAny_execs_nil ⟨σ1, H2, I2, q2⟩
/-! ### calls of the module's defs, by positional promises -/
/-- f(e, ..): what is raised is wished for at the caller's slots -/
def dCall (sp : Sp) (E : L2.St → XK) (t : TA) : TE := fun σ H Q => t σ H fun vs H1 => sp vs H1 Q (E σ)
section
variable {X : Cx} {k : Nat} {g : Addr} {sp : Sp} {E : L2.St → XK} {x : Str} {p pos : Pos} {e : Expr} {es : List Expr} {t : TA}
theorem run_R {pins : List (Addr × Obj)} {σ : L2.St} {H : Hp} {s : Shared} {Q : VK} {us : List Value} {vs : List V} (F : FnR X.prog X.w X.K X.mg X.base (L2.CX X.prog X.w) k g sp) (hr : Room k X.A) (hx : PassesAt (L2.CX X.prog X.w) X σ (E σ))
    (I : Inv X pins σ H s) (r : Vals vs us) (h : sp vs H Q (E σ)) : wpAny (model X.prog X.w) X.A (call (.ref g) us) (EP X pins σ Q) X.xe s := by
  refine wpAny_call (codeAny_mono (F X.A X.stack s H us vs Q (E σ) hr I.env0 r h) fun r s' hq => ?_)
  cases r with
  | error e => exact hx pins H s e s' I hq
  | ok fl =>
    cases fl with
    | ret u => exact I.after hq
    | next => exact False.elim hq
    | brk => exact False.elim hq
    | cont => exact False.elim hq
theorem pe_call (F : FnR X.prog X.w X.K X.mg X.base (L2.CX X.prog X.w) k g sp) (hr : Room k X.A) (hm : X.mg x = some (.ref g)) (hk : PySem.W.keepIn X.K (.ref g) = true) (hx : ∀ σ, PassesAt (L2.CX X.prog X.w) X σ (E σ))
    (ha : PA X (e :: es) t) (hg : Gl X x := by rfl) (hdb : (x == ("__debug__" : Str)) = false := by decide) (he : starEach (e :: es) X.env = (false, eval e X.env) :: starEach es X.env := by rfl) (hpl : (backTo pos (starEach es X.env)).any (·.1) = false := by rfl) :
    PE X (.Call (.Name x p) (e :: es) [] pos) (dCall sp E t) := by
  refine ⟨fun pins s σ H Q I h => ?_⟩
  refine wpAny_Call_Name_kw (ld_glob I hg hm ?_ hdb)
  refine PySem.W.callWith_K (h₀ := X.base) I.ok.mod.kin hk (thn (ha.run pos pins s σ H _ I h) fun us s1 ⟨vs, H1, I1, r, q⟩ => ⟨I1.kIn, ?_⟩) he hpl
  exact run_R F hr (hx σ) I1 r q
end
/-- f(e, ..), f a built-in function | type -/
theorem pe_cb {X : Cx} {x : Str} {p pos : Pos} {e : Expr} {es : List Expr} {t : TA} {id : String} {r : List V → Hp → VK → Prop} (hc : CallR X (.builtin id) r) (hm : X.mg x = none) (hv : bootBuiltins x = some (.builtin id)) (ha : PA X (e :: es) t) (hg : Gl X x := by rfl) (hn : x ≠ "__name__" := by decide) (hdb : (x == ("__debug__" : Str)) = false := by decide)
    (he : starEach (e :: es) X.env = (false, eval e X.env) :: starEach es X.env := by rfl) (hpl : (backTo pos (starEach es X.env)).any (·.1) = false := by rfl) : PE X (.Call (.Name x p) (e :: es) [] pos) (tCB r t) := pe_callB hc hg hm hv ha hn hdb he hpl
theorem pe_ct {X : Cx} {x : Str} {p pos : Pos} {e : Expr} {es : List Expr} {t : TA} {T : String} {r : List V → Hp → VK → Prop} (hc : CallR X (.type T) r) (hm : X.mg x = none) (hv : bootBuiltins x = some (.type T)) (ha : PA X (e :: es) t) (hg : Gl X x := by rfl) (hn : x ≠ "__name__" := by decide) (hdb : (x == ("__debug__" : Str)) = false := by decide)
    (he : starEach (e :: es) X.env = (false, eval e X.env) :: starEach es X.env := by rfl) (hpl : (backTo pos (starEach es X.env)).any (·.1) = false := by rfl) : PE X (.Call (.Name x p) (e :: es) [] pos) (tCB r t) := pe_callTy hc hg hm hv ha hn hdb he hpl
/-- a built-in's name as a value -/
theorem pe_bt {X : Cx} {x : Str} {n : String} {pos : Pos} (hm : X.mg x = none) (hv : bootBuiltins x = some (.type n)) (hg : Gl X x := by rfl) (hn : x ≠ "__name__" := by decide) (hd : (x == ("__debug__" : Str)) = false := by decide) : PE X (.Name x pos) (tC (.ty n)) := pe_bltn hg hm hv rfl hn hd
/-! ### a def by its body -/
section
variable {P : Program} {w : World} {K : Frag} {mg : Str → Option Value} {base : Heap}
abbrev FR (P : Program) (w : World) (K : Frag) (mg : Str → Option Value) (base : Heap) (k : Nat) (f : Addr) (sp : Sp) : Prop := FnR P w K mg base (L2.CX P w) k f sp
/-- the context of a def's body -/
abbrev cxD (P : Program) (w : World) (K : Frag) (mg : Str → Option Value) (base : Heap) (N : List Str) (qual : Str) (scope : Scope) (f : Addr) (cd : Value) (A : Around) (outer : List Env) (s : Shared) (H : Hp) (E : XK) : Cx := cxOf (L2.CX P w) P w K mg base N qual scope f cd A outer s H E
theorem mk_fn {x qual : Str} {params : Arguments} {body : List Stmt} {scope : Scope} {f : Addr} {fd : FuncData} {N ps : List Str} {k : Nat} {sp : Sp} (F : FunD K x qual params body scope [] [] f fd) (S : FnScope N ps scope) (len : ∀ vs H Q E, sp vs H Q E → vs.length = ps.length)
    (hb : ∀ (kV doc pm : Value) (an : Option Addr) (cdv ct : Value) (us : List Value), us.length = ps.length → bindArgs (PySem.W.fnOf x qual params body scope .none kV doc pm an cdv ct) ⟨us, []⟩ = pure (ps.zip us)) {t : XK → TS}
    (hbody : ∀ (cdv : Value) (A : Around) (outer : List Env) (s : Shared) (H : Hp) (E : XK), Room k (A.deeper (envOfC qual scope s.heap.objs.size f cdv)) →
      PSs (cxD P w K mg base N qual scope f cdv A outer s H E) body (t E))
    (pure : ∀ vs H Q E, sp vs H Q E → t E { nx := fun _ H' => Q .non H', rt := Q } (start N vs) H) : FR P w K mg base (k + 1) f sp := by
  have z := (FunD.ok (P := P) (w := w) (mg := mg) (base := base) (CX := L2.CX P w) (sp := sp) F S len fun cdv A outer s H vs Q E hr h => ⟨t E, hbody cdv A outer s H E hr, pure vs H Q E h⟩).raw (F.bindsN hb) .nil
  intro A outer s H us vs Q E hr e0 r hs
  exact z A outer s H us vs Q E hr e0 r (by show sp (vs ++ []) H Q E; rw [List.append_nil]; exact hs)
end
/-- the wish of a def's body: what leaves it leaves the def -/
abbrev EW (E : XK) : L2.St → XK := fun _ => E
theorem passD {P : Program} {w : World} {K : Frag} {mg : Str → Option Value} {base : Heap} {N : List Str} {qual : Str} {scope : Scope} {f : Addr} {cd : Value} {A : Around} {outer : List Env} {s : Shared} {H : Hp} {E : XK} :
    ∀ σ, PassesAt (L2.CX P w) (cxD P w K mg base N qual scope f cd A outer s H E) σ (EW E σ) := fun σ => passAt (takes_of rfl rfl rfl rfl) σ
theorem ownD {P : Program} {w : World} {K : Frag} {mg : Str → Option Value} {base : Heap} {N : List Str} {qual : Str} {scope : Scope} {f : Addr} {cd : Value} {A : Around} {outer : List Env} {s : Shared} {H : Hp} {E : XK} :
    PassesOwn (model P w) (cxD P w K mg base N qual scope f cd A outer s H E).A (cxD P w K mg base N qual scope f cd A outer s H E).env (cxD P w K mg base N qual scope f cd A outer s H E).xe := passes_of rfl
/-! ### named rests: the walk stops there -/
structure Stop (t : TS) (D : Ends) (σ : L2.St) (H : Hp) : Prop where
  go : t D σ H
def stop (t : TS) : TS := fun D σ H => Stop t D σ H
theorem pss_stop {X : Cx} {st : List Stmt} {t : TS} (h : PSs X st t) : PSs X st (stop t) := ⟨fun pins s σ H D I q => h.run pins s σ H D I q.go⟩
/-! ### the law's own def: nothing leaves it -/
theorem passL0 {X : Cx} : ∀ σ, PassesAt (L2.CX X.prog X.w) X σ (EW E0 σ) := fun _ _ _ _ _ _ _ h => by
  obtain ⟨_, _, _, _, _, _, _, _, _, _, _, _, z⟩ := h
  exact z.elim
theorem mk_law {P : Program} {w : World} {K : Frag} {mg : Str → Option Value} {base : Heap} {x qual : Str} {params : Arguments} {body : List Stmt} {scope : Scope} {f : Addr} {fd : FuncData} {N ps : List Str} {k : Nat} {sp : Sp} (F : FunD K x qual params body scope [] [] f fd) (S : FnScope N ps scope) (len : ∀ vs H Q E, sp vs H Q E → vs.length = ps.length)
    {t : XK → TS} (hbody : ∀ (cdv : Value) (A : Around) (outer : List Env) (s : Shared) (H : Hp) (E : XK), Room k (A.deeper (envOfC qual scope s.heap.objs.size f cdv)) →
      PSs (cxOf CX0 P w K mg base N qual scope f cdv A outer s H E).nox body (t E0))
    (pure : ∀ vs H Q E, sp vs H Q E → t E0 { nx := fun _ H' => Q .non H', rt := Q } (start N vs) H) : FnOk P w K mg base CX0 (k + 1) f fd ps sp :=
  FunD.ok F S len fun cdv A outer s H vs Q E hr h => ⟨t E0, PSs.nox (hbody cdv A outer s H E hr), pure vs H Q E h⟩
/-! ### comprehensions with one for -/
structure Wr (R : It → Hp → Prop) (J : It) (H : Hp) : Prop where
  go : R J H
theorem pi_wr {X : Cx} {tg iter : Expr} {wi : TI} (h : PI X tg iter wi) : PI X tg iter (fun σ H R => wi σ H (Wr R)) := ⟨fun pins s σ H R I q =>
  thn (h.run pins s σ H (Wr R) I q) fun _ _ z => thn z fun _ _ ⟨it, fp, tn, J, H', e, I', T, t0, f, r⟩ => ⟨it, fp, tn, J, H', e, I', T, t0, f, r.go⟩⟩
def LcGo (g : TG) (tt : TT) (te : TE) (vs : List Nat) (σ : L2.St) (Q : VK) (J : It) (H1 : Hp) : Prop :=
  ∀ D, H1 D = none → ∃ W : Nat → Nat → Hp → Prop, (∃ m, W 0 m (upd H1 D (.lst []))) ∧ ∀ i m H, W i m H →
    (J.stop i H ∧ Q (.ref D) H) ∨ (J.go i H ∧ ∃ Nx : Hp → Prop, (∀ H', Nx H' → ∃ m', m' < m ∧ W (i + 1) m' H') ∧ ∀ x H', J.yld i H x H' → g x (wipe σ vs) H' fun σ2 H2 => wipe σ2 vs = wipe σ vs ∧ tt σ2 H2 fun b H3 =>
      if b = true then te σ2 H3 fun y H4 => ∃ acc, H4 D = some (.lst acc) ∧ acc.length < sizeLine ∧ Nx (upd H4 D (.lst (acc ++ [y]))) else Nx H3)
def dLc (wi : TI) (g : TG) (tt : TT) (te : TE) (vs : List Nat) : TE := fun σ H Q => wi σ H (Wr (LcGo g tt te vs σ Q))
theorem pe_lc {X : Cx} {elt tg iter : Expr} {ifs : List Expr} {scope : Scope} {own : List (Str × Nat)} {pos : Pos} {wi : TI} {g : TG} {tt : TT} {te : TE} (hc : X.calm = true) (hN : X.N.Nodup) (hi : PI X tg iter wi) (ok : BlkOk X.N X.env.scope scope own)
    (hg : ∀ (s : Shared) (H : Hp) (C : Addr) (cl : List (Str × Addr)) (fp : List Addr), PG (X.blk s H scope (compEnvC scope cl C X.env) fp) tg g) (ht : ∀ (s : Shared) (H : Hp) (C : Addr) (cl : List (Str × Addr)) (fp : List Addr), PTs (X.blk s H scope (compEnvC scope cl C X.env) fp) ifs tt)
    (he : ∀ (s : Shared) (H : Hp) (C : Addr) (cl : List (Str × Addr)) (fp : List Addr), PE (X.blk s H scope (compEnvC scope cl C X.env) fp) elt te) (hs : ∀ x, foldedSetIterable iter X.env x = pure x := by intro _; rfl) :
    PE X (.ListComp elt [⟨tg, iter, ifs, 0⟩] scope pos) (dLc wi g tt te (own.map (·.2))) := L2.pe_lc hc hN (pi_wr hi) ok hg ht he hs
theorem ps_setLc {X : Cx} {i : Nat} {y : Str} {py : Pos} {elt tg iter : Expr} {ifs : List Expr} {scope : Scope} {own : List (Str × Nat)} {pos spos : Pos} {wi : TI} {g : TG} {tt : TT} {te : TE} (hc : X.calm = true) (hN : X.N.Nodup) (hy : X.N[i]? = some y) (hyl : X.env.scope.names.lookup y = some .local)
    (hsw : swapsWith (.ListComp elt [⟨tg, iter, ifs, 0⟩] scope pos) (some (.Name y py)) spos.line X.env = pure true) (hi : PI X tg iter wi) (ok : BlkOk X.N X.env.scope scope own)
    (hg : ∀ (s : Shared) (H : Hp) (C : Addr) (cl : List (Str × Addr)) (fp : List Addr), PG (X.blk s H scope (compEnvC scope cl C X.env) fp) tg g) (ht : ∀ (s : Shared) (H : Hp) (C : Addr) (cl : List (Str × Addr)) (fp : List Addr), PTs (X.blk s H scope (compEnvC scope cl C X.env) fp) ifs tt)
    (he : ∀ (s : Shared) (H : Hp) (C : Addr) (cl : List (Str × Addr)) (fp : List Addr), PE (X.blk s H scope (compEnvC scope cl C X.env) fp) elt te) (hs : ∀ x, foldedSetIterable iter X.env x = pure x := by intro _; rfl) :
    PS X (.Assign [.Name y py] (.ListComp elt [⟨tg, iter, ifs, 0⟩] scope pos) spos) (tAsg (dLc wi g tt te (own.map (·.2))) (gName i)) := L2.ps_setLc hc hN hy hyl hsw (pi_wr hi) ok hg ht he hs
theorem ifc {c : Prop} [Decidable c] {A B : Prop} (h1 : c → A) (h2 : ¬ c → B) : if decide c = true then A else B := by
  by_cases h : c
  · rw [decide_eq_true h]; exact iteT (h1 h)
  · rw [decide_eq_false h]; exact iteF (h2 h)
/-- over a list or a tuple, by a word over (turn, heap): the new list stands at D -/
theorem lc_seq {K : Frag} {p : Addr} {xs : List V} {g : TG} {tt : TT} {te : TE} {vs : List Nat} {σ : L2.St} {H1 : Hp} {Q : VK} (hx : SqA K H1 p xs)
    (h : ∀ D, H1 D = none → ∃ Pv : Nat → Hp → Prop, Pv 0 (upd H1 D (.lst [])) ∧ (∀ i H, i ≤ xs.length → Pv i H → ∀ ys, (SqL K H1 p ys → SqL K H p ys) ∧ (SqT K H1 p ys → SqT K H p ys)) ∧
      (∀ i x H, xs[i]? = some x → Pv i H → g x (wipe σ vs) H fun σ2 H2 => wipe σ2 vs = wipe σ vs ∧ tt σ2 H2 fun b H3 =>
        if b = true then te σ2 H3 fun y H4 => ∃ acc, H4 D = some (.lst acc) ∧ acc.length < sizeLine ∧ Pv (i + 1) (upd H4 D (.lst (acc ++ [y]))) else Pv (i + 1) H3) ∧ (∀ H, Pv xs.length H → Q (.ref D) H)) :
    Walk K H1 p (Wr (LcGo g tt te vs σ Q)) := by
  rcases hx with hx | hx
  · refine ⟨.inl ⟨⟨xs, hx⟩, ⟨fun D hD => ?_⟩⟩⟩
    obtain ⟨Pv, h0, hl, hs, hd⟩ := h D hD
    exact lc_list (Qd := fun H => Q (.ref D) H) Pv h0 (fun i H hi q => (hl i H hi q xs).1 hx) hs hd
  · refine ⟨.inr ⟨⟨xs, hx⟩, ⟨fun D hD => ?_⟩⟩⟩
    obtain ⟨Pv, h0, hl, hs, hd⟩ := h D hD
    exact lc_tup (Qd := fun H => Q (.ref D) H) Pv h0 (fun i H hi q => (hl i H hi q xs).2 hx) hs hd
/-- all but lists stays (dicts too) -/
def SameI (H H' : Hp) : Prop := ∀ b o, H b = some o → (∀ l, o ≠ .lst l) → H' b = some o
theorem Same.i {H H' : Hp} (e : Same H H') : SameI H H' := fun b o h _ => e b o h
theorem SameI.trans {H H1 H2 : Hp} (a : SameI H H1) (b : SameI H1 H2) : SameI H H2 := fun c o h n => b c o (a c o h n) n
theorem SameI.lst {H : Hp} {p : Addr} {xs ys : List V} (h : H p = some (.lst xs)) : SameI H (L2.upd H p (.lst ys)) := fun b o hb n => by
  by_cases e : b = p
  · subst e; rw [h] at hb; exact absurd (Option.some.inj hb).symm (n xs)
  · rw [upd_ne e]; exact hb
theorem SameX.i {st : Addr} {H H' : Hp} {xs : List V} (e : SameX st H H') (h : H st = some (.lst xs)) : SameI H H' := fun b o hb n => e b o hb fun z => by
  subst z; rw [h] at hb; exact n xs (Option.some.inj hb).symm
theorem SameI.tup {K : Frag} {H H' : Hp} {a : Addr} {xs : List V} (e : SameI H H') (h : SqT K H a xs) : SqT K H' a xs := by
  rcases h with (h | ⟨o, h⟩) | h
  · exact .inl (.inl (e _ _ h fun _ z => by cases z))
  · exact .inl (.inr ⟨o, e _ _ h fun _ z => by cases z⟩)
  · exact .inr h
theorem take_filter {xs : List V} {pr : V → Bool} {i : Nat} {x : V} (h : xs[i]? = some x) : (xs.take (i + 1)).filter pr = (xs.take i).filter pr ++ (if pr x = true then [x] else []) := by
  rw [List.take_succ, h, List.filter_append]
  congr 1
  show [x].filter pr = _
  by_cases e : pr x = true <;> simp [e]
/-- .. whose test is told by a function of the item, its elements by a relation -/
theorem lc_rel {K : Frag} {p : Addr} {xs : List V} {g : TG} {tt : TT} {te : TE} {vs : List Nat} {σ : L2.St} {H1 : Hp} {Q : VK} (R : V → V → Hp → Prop) (pr : V → Bool) (hx : SqA K H1 p xs) (hz : xs.length < sizeLine) (mono : ∀ x y H H', R x y H → SameI H H' → R x y H')
    (hs : ∀ x H (A : V → Hp → Prop) (B : Hp → Prop), x ∈ xs → Same H1 H → (∀ y H', Same H H' → R x y H' → pr x = true → A y H') → (∀ H', Same H H' → pr x = false → B H') →
      g x (wipe σ vs) H fun σ2 H2 => wipe σ2 vs = wipe σ vs ∧ tt σ2 H2 fun b H3 => if b = true then te σ2 H3 A else B H3)
    (hd : ∀ D ys H', H1 D = none → H' D = some (.lst ys) → Paired (fun x y => R x y H') (xs.filter pr) ys → Same H1 H' → Q (.ref D) H') :
    Walk K H1 p (Wr (LcGo g tt te vs σ Q)) := by
  refine lc_seq hx fun D hD => ⟨fun i H => ∃ ys, H D = some (.lst ys) ∧ Paired (fun x y => R x y H) ((xs.take i).filter pr) ys ∧ Same H1 H, ⟨[], upd_same, .nil, same_new hD⟩, fun i H _ ⟨_, _, _, e⟩ ys => ⟨e.seq, Same.tup e⟩, ?_, fun H ⟨ys, h1, h2, e⟩ => hd D ys H hD h1 (by rw [List.take_length] at h2; exact h2) e⟩
  rintro i x H hi ⟨ys, h1, h2, e⟩
  have hlen : ys.length ≤ i := by
    rw [← h2.length]
    exact Nat.le_trans (List.length_filter_le _ _) (by rw [List.length_take]; exact Nat.min_le_left _ _)
  have hil : i < xs.length := (List.getElem?_eq_some_iff.mp hi).1
  refine hs x H _ _ (List.mem_of_getElem? hi) e (fun y H' e2 r hp => ⟨ys, e2 _ _ h1, by omega, ys ++ [y], upd_same, ?_, ?_⟩) fun H' e2 hp => ⟨ys, e2 _ _ h1, ?_, e.trans e2⟩
  · have si : SameI H' (upd H' D (.lst (ys ++ [y]))) := SameI.lst (e2 _ _ h1)
    rw [take_filter hi, if_pos hp]
    exact Paired.snoc (Paired.mapP h2 fun a b r => mono _ _ _ _ r (SameI.trans (Same.i e2) si)) (mono _ _ _ _ r si)
  · intro b o hb
    rw [upd_ne (ne_of_none hb hD)]
    exact e2 _ _ (e _ _ hb)
  · rw [take_filter hi, if_neg (by rw [hp]; exact Bool.false_ne_true), List.append_nil]
    exact Paired.mapP h2 fun a b r => mono _ _ _ _ r (Same.i e2)
/-- .. whose test and elements are told by functions of the item -/
theorem lc_map {K : Frag} {p : Addr} {xs : List V} {g : TG} {tt : TT} {te : TE} {vs : List Nat} {σ : L2.St} {H1 : Hp} {Q : VK} (f : V → V) (pr : V → Bool) (hx : SqA K H1 p xs) (hz : xs.length < sizeLine)
    (hs : ∀ x H (A : V → Hp → Prop) (B : Hp → Prop), x ∈ xs → Same H1 H → (∀ H', Same H H' → pr x = true → A (f x) H') → (∀ H', Same H H' → pr x = false → B H') →
      g x (wipe σ vs) H fun σ2 H2 => wipe σ2 vs = wipe σ vs ∧ tt σ2 H2 fun b H3 => if b = true then te σ2 H3 A else B H3)
    (hd : ∀ D H', H1 D = none → H' D = some (.lst ((xs.filter pr).map f)) → Same H1 H' → Q (.ref D) H') :
    Walk K H1 p (Wr (LcGo g tt te vs σ Q)) := by
  refine lc_rel (fun x y _ => y = f x) pr hx hz (fun _ _ _ _ r _ => r) (fun x H A B hm e hA hB => hs x H A B hm e (fun H' e2 hp => hA _ _ e2 rfl hp) hB) fun D ys H' hn hD hp e => hd D H' hn ?_ e
  have key : ∀ {as bs : List V}, Paired (fun x y => y = f x) as bs → bs = as.map f := by
    intro as bs h
    induction h with
    | nil => rfl
    | cons r _ ih => rw [r, ih]; rfl
  rw [← key hp]; exact hD
end S
/-! ## short tactics (local rows) -/
open PySem PySem.Spec PyProof.Rows L2 S in
local macro_rules | `(tactic| walk_at "ne") => `(tactic| first | assumption | (apply Ne.symm; assumption) | (apply ne_of_none <;> assumption))
open PySem PySem.Spec PyProof.Rows L2 S in
local macro_rules | `(tactic| walk_at "hp") => `(tactic| first | assumption | exact upd_same | (refine' up_of ?n1 ?h1; (case n1 => walk_at "ne"); (case h1 => walk_at "hp")))
open PySem PySem.Spec PyProof.Rows L2 S in
local macro_rules | `(tactic| walk_at "sx") => `(tactic| first | assumption | exact SameX.refl _ _ | (refine' SameX.put ?h1; (case h1 => walk_at "sx")))
open PySem PySem.Spec PyProof.Rows L2 S in
local macro_rules | `(tactic| walk_at "sl") => `(tactic| first | assumption | (refine' appS ?h1 ?e1; (case h1 => assumption); (case e1 => walk_at "sx")) | (refine' sl_upd ?h1 ?n1; (case n1 => walk_at "ne"); (case h1 => walk_at "sl")))
open PySem PySem.Spec PyProof.Rows L2 S in
local macro_rules | `(tactic| walk_at "st") => `(tactic| first | assumption | (refine' st_upd ?h1 ?n1; (case n1 => walk_at "ne"); (case h1 => walk_at "st")))
open PySem PySem.Spec PyProof.Rows L2 S in
local macro_rules | `(tactic| walk_at "ar") => `(tactic| first | omega | decide | (exact ⟨by decide, by decide⟩) | (exact ⟨by decide, by decide, by decide⟩) | (simp only [CDiv, CPow, CMul]; omega) | (exact .inl (by omega)) | (exact .inr (by omega)) | (simp only [sizeLine_eq, List.length_map, List.length_cons, List.length_nil, List.length_append, List.length_reverse]; omega))
open PySem PySem.Spec PyProof.Rows L2 S in
local macro_rules | `(tactic| walk_at "rd") => `(tactic| first
  | (refine' Rd.l ?h1 ?h2; (case h1 => walk_at "hp"))
  | (refine' Rd.sl ?h1 ?h2; (case h1 => walk_at "sl"))
  | (refine' Rd.st ?h1 ?h2; (case h1 => walk_at "st"))
  | (refine' Rd.sa ?h1 ?h2; (case h1 => assumption))
  | (refine' S.At.of ?h1 ?h2; (case h1 => (first | rfl | assumption)))
  | (refine' Ls.of ?h1 ?h2; (case h1 => walk_at "hp"))
  | (refine' IsL.of ?h1 ?h2; (case h1 => walk_at "hp"))
  | (refine' Pl.of ?h1 ?h2; (case h1 => rfl))
  | (refine' Need.mk ?h1 ?h2; (case h1 => walk_at "ar")))
open PySem PySem.Spec PyProof.Rows L2 S in
local macro_rules | `(tactic| walk_at "go") => `(tactic| (repeat walk_at "rd"))
open PySem PySem.Spec PyProof.Rows L2 S in
local macro_rules | `(tactic| walk_at "gx") => `(tactic| (repeat (first | walk_at "rd" | refine' Stop.mk ?_)))
/-! ## the laws' own harness: draws -/
namespace S
open PySem PySem.Spec PyProof.Rows L2
theorem at_ints {ns : List Int} {i : Int} (h0 : 0 ≤ i) (h1 : i < ns.length) : ∃ x, atI (ns.map V.int) i = some (.int x) := by
  obtain ⟨j, rfl⟩ := Int.eq_ofNat_of_zero_le h0
  have hl : j < ns.length := by omega
  refine ⟨ns[j], atI_nat ?_⟩
  rw [List.getElem?_map, List.getElem?_eq_getElem hl]
  rfl
/-- the state of the draws: place, left, number, kind -/
def DrawSt (l : List V) : Prop := ∃ a b n k : Int, l = [.int a, .int b, .int n, .int k] ∧ 0 ≤ a ∧ 0 ≤ n ∧ (b = 0 ∨ k = 2 ∨ n < 10 ^ 18)
/-- the script at a: the calls leave it -/
def ScrAt (K : Frag) (H : Hp) (a st : Addr) (ns : List Int) : Prop := (a ≠ st ∧ SqL K H a (ns.map V.int)) ∨ ∀ H', SqL K H' a (ns.map V.int)
/-- the script at a, the state at st -/
structure Ctx (K : Frag) (H : Hp) (a st : Addr) : Prop where
  scr : ∃ ns : List Int, ScrAt K H a st ns
  stt : ∃ l, H st = some (.lst l) ∧ DrawSt l
theorem ScrAt.sl {K : Frag} {H : Hp} {a st : Addr} {ns : List Int} (h : ScrAt K H a st ns) : SqL K H a (ns.map V.int) := by
  rcases h with ⟨_, h⟩ | h
  · exact h
  · exact h H
theorem ScrAt.x {K : Frag} {H H' : Hp} {a st : Addr} {ns : List Int} (h : ScrAt K H a st ns) (e : SameX st H H') : ScrAt K H' a st ns := by
  rcases h with ⟨n, h⟩ | h
  · exact .inl ⟨n, e.seq h n⟩
  · exact .inr h
theorem ScrAt.same {K : Frag} {H H' : Hp} {a st : Addr} {ns : List Int} (h : ScrAt K H a st ns) (e : Same H H') : ScrAt K H' a st ns := h.x (Same.x e)
theorem Ctx.same {K : Frag} {H H' : Hp} {a st : Addr} (c : Ctx K H a st) (e : Same H H') : Ctx K H' a st := by
  obtain ⟨⟨ns, h⟩, l, hl, d⟩ := c
  exact ⟨⟨ns, h.same e⟩, l, e _ _ hl, d⟩
def sp__law_draw (K : Frag) : Sp := fun vs H Q _ => ∃ (a st : Addr) (base : Int), vs = [.ref a, .ref st, .int base] ∧ Ctx K H a st ∧ 0 < base ∧
  ∀ (r : Int) (H' : Hp), 0 ≤ r → r < base → Ctx K H' a st → SameX st H H' → Q (.int r) H'
/-- a list made behind H0 may change -/
theorem SameX.mut {st : Addr} {H0 H1 : Hp} {p : Addr} {o : HO} (e : SameX st H0 H1) (n : H0 p = none) : SameX st H0 (L2.upd H1 p o) := fun b u h k => by
  rw [upd_ne (ne_of_none h n)]
  exact e b u h k
theorem Same.mut {H0 H1 : Hp} {p : Addr} {o : HO} (e : Same H0 H1) (n : H0 p = none) : Same H0 (upd H1 p o) := fun b u h => by
  rw [upd_ne (ne_of_none h n)]
  exact e b u h
theorem Ctx.mut {K : Frag} {H0 H1 : Hp} {a st p : Addr} {o : HO} (c : Ctx K H1 a st) (e : Ctx K H0 a st) (n : H0 p = none) : Ctx K (L2.upd H1 p o) a st := by
  obtain ⟨⟨ns, h⟩, l, hl, d⟩ := c
  obtain ⟨⟨ns0, h0⟩, l0, hl0, d0⟩ := e
  have n1 : st ≠ p := ne_of_none hl0 n
  refine ⟨?_, l, by rw [upd_ne n1]; exact hl, d⟩
  rcases h with ⟨na, h⟩ | h
  · by_cases e : a = p
    · subst e
      rcases h0.sl with (h0 | ⟨_, h0⟩) | h0
      · rw [n] at h0; cases h0
      · rw [n] at h0; cases h0
      · exact ⟨ns0, .inr fun H' => .inr h0⟩
    · exact ⟨ns, .inl ⟨na, sl_upd h e⟩⟩
  · exact ⟨ns, .inr h⟩
/-- ends ascending within a size -/
def Ends (size : Int) (ns : List Int) : Prop := ns.Pairwise (· < ·) ∧ ∀ x ∈ ns, 0 ≤ x ∧ x < size
theorem Ends.snoc {size at_ : Int} {ns : List Int} (h : Ends size ns) (hb : ∀ x ∈ ns, x < at_) (h0 : 0 ≤ at_) (h1 : at_ < size) : Ends size (ns ++ [at_]) := by
  refine ⟨List.pairwise_append.mpr ⟨h.1, List.pairwise_singleton _ _, fun x hx y hy => ?_⟩, fun x hx => ?_⟩
  · rw [List.mem_singleton.mp hy]
    exact hb x hx
  · rcases List.mem_append.mp hx with hx | hx
    · exact h.2 x hx
    · rw [List.mem_singleton.mp hx]
      exact ⟨h0, h1⟩
end S
-- deps: D0
/-! ## data compared, isinstance -/
namespace S
open PySem PySem.Spec PyProof.Rows L2
theorem dp_ints {K : Frag} {H : Hp} : ∀ ns : List Int, DpAll K H (ns.map V.int) (ns.map PyData.int)
  | [] => .nil
  | n :: r => .cons (.int n) (dp_ints r)
theorem can_ints : ∀ ns : List Int, PyData.canLayAll0 (ns.map PyData.int) = true
  | [] => rfl
  | n :: r => by
    show (PyData.canLay0 (.int n) && PyData.canLayAll0 (r.map PyData.int)) = true
    rw [can_ints r]; rfl
theorem dep_ints : ∀ ns : List Int, PyData.depthAll (ns.map PyData.int) = 0
  | [] => rfl
  | n :: r => by
    show max (PyData.depth (.int n)) (PyData.depthAll (r.map PyData.int)) = 0
    rw [dep_ints r]; rfl
theorem shp_ints (ns : List Int) : SeqAt.shaped (.list (ns.map PyData.int)) = true := by
  unfold SeqAt.shaped
  have e1 : PyData.canLay0 (.list (ns.map PyData.int)) = true := can_ints ns
  have e2 : PyData.depth (.list (ns.map PyData.int)) = 1 := by show PyData.depthAll _ + 1 = 1; rw [dep_ints]
  rw [e1, e2]; rfl
theorem eqv_ints : ∀ xs ys : List Int, PyData.eqvAll (xs.map PyData.int) (ys.map PyData.int) = decide (xs = ys)
  | [], [] => rfl
  | [], _ :: _ => by simp [PyData.eqvAll]
  | _ :: _, [] => by simp [PyData.eqvAll]
  | x :: xs, y :: ys => by
    show (PyData.eqv (.int x) (.int y) && PyData.eqvAll (xs.map PyData.int) (ys.map PyData.int)) = _
    rw [eqv_ints xs ys]
    show ((x == y) && decide (xs = ys)) = _
    by_cases h : x = y <;> by_cases h2 : xs = ys <;> simp [h, h2]
theorem eqd_ll {K : Frag} {H : Hp} {a b : Addr} {xs ys : List Int} {k : Bool → Prop} (h : SqL K H a (xs.map V.int)) (h2 : SqL K H b (ys.map V.int)) (q : k (decide (xs = ys))) : EqD K H (.ref a) (.ref b) k :=
  ⟨_, _, .lst h (dp_ints xs), .lst h2 (dp_ints ys), shp_ints xs, shp_ints ys, by
    have e : PyData.eqv (.list (xs.map PyData.int)) (.list (ys.map PyData.int)) = decide (xs = ys) := eqv_ints xs ys
    rw [e]; exact q⟩
theorem isi_tup {K : Frag} {H : Hp} {p : Addr} {xs : List V} {k : Bool → Prop} (h : SqT K H p xs) (q : k true) : Isi K H (.ref p) (.type "tuple") k := by
  rcases h with (h | ⟨o, h⟩) | ⟨o, its, n, h1, h2, _⟩
  · exact Isi.of (.base (.tup h)) rfl q
  · exact Isi.of (.fTuple h) rfl q
  · exact Isi.of (.kTuple h1 h2) rfl q
theorem isi_lst {K : Frag} {H : Hp} {p : Addr} {xs : List V} {k : Bool → Prop} (h : H p = some (.lst xs)) (q : k true) : Isi K H (.ref p) (.type "list") k := Isi.of (.base (.lst h)) rfl q
theorem map_filter_ints {ns : List Int} (pr : V → Bool) (f : V → V) (p2 : Int → Bool) (f2 : Int → Int) (hp : ∀ i, pr (.int i) = p2 i) (hf : ∀ i, f (.int i) = .int (f2 i)) : ((ns.map V.int).filter pr).map f = ((ns.filter p2).map f2).map V.int := by
  induction ns with
  | nil => rfl
  | cons x r ih =>
    simp only [List.map_cons, List.filter_cons, hp]
    by_cases h : p2 x = true
    · simp only [h, if_true, List.map_cons, hf, ih]
    · rw [if_neg h, if_neg h]; exact ih
theorem Ends.drop {size : Int} {ns : List Int} (h : Ends size ns) (k : Nat) : Ends size (ns.drop k) := ⟨h.1.sublist (List.drop_sublist k ns), fun x hx => h.2 x (List.mem_of_mem_drop hx)⟩
theorem Ends.filter {size : Int} {ns : List Int} (h : Ends size ns) (p : Int → Bool) : Ends size (ns.filter p) := ⟨h.1.filter p, fun x hx => h.2 x ((List.mem_filter.mp hx).1)⟩
theorem Ends.up {size : Int} {ns : List Int} (h : Ends size ns) : Ends size ((ns.filter fun x => decide (x + 1 < size)).map fun x => x + 1) := by
  refine ⟨List.pairwise_map.mpr ((h.1.filter _).imp fun {a b} hab => by omega), fun x hx => ?_⟩
  obtain ⟨y, hy, rfl⟩ := List.mem_map.mp hx
  have h1 := (List.mem_filter.mp hy)
  have h2 := h.2 y h1.1
  have h3 : y + 1 < size := of_decide_eq_true h1.2
  omega
theorem cut_from {ns : List Int} {d : Int} (h : 0 ≤ d) : cutV (ns.map V.int) (some d) none = (ns.drop d.toNat).map V.int := by
  obtain ⟨k, rfl⟩ := Int.eq_ofNat_of_zero_le h
  unfold cutV
  rw [HT.sIx_nat, HT.sIx_none, List.length_map, Int.toNat_natCast, ← List.map_drop]
  by_cases hk : k ≤ ns.length
  · rw [Nat.min_eq_left hk, List.take_of_length_le]
    simp
  · rw [Nat.min_eq_right (by omega), List.drop_eq_nil_of_le (by omega : ns.length ≤ k)]
    simp
def sp_law (K : Frag) : Sp := fun vs H Q _ => ∃ (a : Addr) (ns : List Int), vs = [.ref a] ∧ SqL K H a (ns.map V.int) ∧ ∀ H', Q (.bl true) H'
theorem ctx0 {K : Frag} {H : Hp} {a st : Addr} {ns : List Int} (h : SqL K H a (ns.map V.int)) (hs : H st = none) (l : List V) (d : DrawSt l) : Ctx K (upd H st (.lst l)) a st := by
  refine ⟨⟨ns, ?_⟩, _, upd_same, d⟩
  rcases h with h | h
  · have ne : a ≠ st := by
      rintro rfl
      rcases h with h | ⟨_, h⟩
      · rw [hs] at h; cases h
      · rw [hs] at h; cases h
    exact .inl ⟨ne, sl_upd (.inl h) ne⟩
  · exact .inr fun H' => .inr h
theorem ctx_st {K : Frag} {H : Hp} {a st : Addr} (c : Ctx K H a st) : ∃ l, H st = some (.lst l) := let ⟨_, l, h, _⟩ := c; ⟨l, h⟩
theorem ctx_ne {K : Frag} {H : Hp} {a st p : Addr} (c : Ctx K H a st) (n : H p = none) : p ≠ st := by
  obtain ⟨l, h⟩ := ctx_st c
  exact (ne_of_none h n).symm
theorem pw_lt {ns : List Int} (h : ns.Pairwise (· < ·)) {i j : Nat} {x y : Int} (hij : i < j) (hx : ns[i]? = some x) (hy : ns[j]? = some y) : x < y := by
  obtain ⟨h1, rfl⟩ := List.getElem?_eq_some_iff.mp hx
  obtain ⟨h2, rfl⟩ := List.getElem?_eq_some_iff.mp hy
  exact List.pairwise_iff_getElem.mp h i j h1 h2 hij
end S
namespace S
open PySem PySem.Spec PyProof.Rows L2
def t__law_draw_7 (K : Frag) (E : XK) : TS :=
    tRet (tOp oMod (tCB cInt (tCons (dVar 6) (tNil))) (dVar 2))
def t__law_draw_6 (K : Frag) (E : XK) : TS :=
    tSeq (tAsg (tOp oMod (tCB cInt (tCons (tOp oMul (dVar 6) (dVar 6)) (tNil))) (tC (.int 999983))) (gName 6))
    (stop (t__law_draw_7 K E))
def t__law_draw_5 (K : Frag) (E : XK) : TS :=
    tSeq (tAsg (tOp oMod (tCB cInt (tCons (tOp (oAdd K) (tOp oMul (dVar 6) (dVar 6)) (dVar 4)) (tNil))) (tC (.int 1000003))) (gName 6))
    (stop (t__law_draw_6 K E))
def t__law_draw_4 (K : Frag) (E : XK) : TS :=
    tSeq (tAsg (tOp oMod (tCB cInt (tCons (tOp (oAdd K) (tOp oMul (dVar 4) (tOp (oAdd K) (tOp (oAdd K) (tC (.int 48271)) (tOp oMul (tC (.int 7919)) (tOp (oIx K) (dVar 1) (tC (.int 1))))) (tOp oMul (tC (.int 104729)) (tOp (oIx K) (dVar 1) (tC (.int 0)))))) (tOp oMul (tC (.int 611953)) (tOp (oIx K) (dVar 1) (tC (.int 3))))) (tNil))) (tC (.int 2147483647))) (gName 6))
    (stop (t__law_draw_5 K E))
def t__law_draw_3 (K : Frag) (E : XK) : TS :=
    tSeq (dIfS (dCmpT (oEq K) (tOp (oIx K) (dVar 1) (tC (.int 3))) (tC (.int 2))) (tSeq (tAsg (tOp oFdiv (dVar 4) (tC (.int 1000))) (gSub (dVar 1) (tC (.int 2)) oSet))
    (tSeq (dIfS (dCmpT (oEq K) (tOp (oIx K) (dVar 1) (tC (.int 2))) (tC (.int 0))) (tAsg (tC (.int 0)) (gSub (dVar 1) (tC (.int 1)) oSet)) (tNext))
    (tSeq (tAsg (tOp oMod (tCB cInt (tCons (dVar 4) (tNil))) (tC (.int 1000))) (gName 5))
    (tRet (tOp oMod (tCB cInt (tCons (dVar 5) (tNil))) (dVar 2)))))) (tNext))
    (stop (t__law_draw_4 K E))
def t__law_draw_2 (K : Frag) (E : XK) : TS :=
    tSeq (tAsg (tCB cInt (tCons (tOp (oIx K) (dVar 1) (tC (.int 2))) (tNil))) (gName 4))
    (stop (t__law_draw_3 K E))
def t__law_draw_1 (K : Frag) (E : XK) : TS :=
    tSeq (tAsg (tOp oSub (tOp (oIx K) (dVar 1) (tC (.int 1))) (tC (.int 1))) (gSub (dVar 1) (tC (.int 1)) oSet))
    (stop (t__law_draw_2 K E))
def t__law_draw (K : Frag) (E : XK) : TS :=
    tSeq (dIfS (dCmpT (oEq K) (tOp (oIx K) (dVar 1) (tC (.int 1))) (tC (.int 0))) (tSeq (tAsg (tOp (oIx K) (dVar 1) (tC (.int 0))) (gName 3))
    (tSeq (tAsg (tOp (oAdd K) (dVar 3) (tC (.int 1))) (gSub (dVar 1) (tC (.int 0)) oSet))
    (tSeq (dIfS (dCmpT oGe (dVar 3) (tCB (cLen K) (tCons (dVar 0) (tNil)))) (tRet (tC (.int 0))) (tNext))
    (tSeq (tAsg (tCB cAbs (tCons (tOp (oIx K) (dVar 0) (dVar 3)) (tNil))) (gSub (dVar 1) (tC (.int 2)) oSet))
    (tSeq (tAsg (tCB cInt (tCons (tOp oLt (tOp (oIx K) (dVar 0) (dVar 3)) (tC (.int 0))) (tNil))) (gSub (dVar 1) (tC (.int 3)) oSet))
    (tSeq (tAsg (tC (.int 12)) (gSub (dVar 1) (tC (.int 1)) oSet))
    (dIfS (dCmpT oGe (tOp (oIx K) (dVar 1) (tC (.int 2))) (tOp oPow (tC (.int 10)) (tC (.int 18)))) (tSeq (tAsg (tC (.int 60)) (gSub (dVar 1) (tC (.int 1)) oSet))
    (tAsg (tC (.int 2)) (gSub (dVar 1) (tC (.int 3)) oSet))) (tNext)))))))) (tNext))
    (stop (t__law_draw_1 K E))
end S
-- fn: _law_draw
-- law: k03
-- deps: D0
namespace S
open PySem PySem.Spec PyProof.Rows L2
theorem pure__law_draw {K : Frag} (vs : List V) (H : Hp) (Q : VK) (E : XK) (h : sp__law_draw K vs H Q E) : t__law_draw K E { nx := fun _ H' => Q .non H', rt := Q } (start ["_law_script", "_law_state", "_law_base", "_law_here", "_law_number", "_law_digit", "_law_mixed"] vs) H := by
  obtain ⟨a, st, base, rfl, ⟨⟨ns, hscr⟩, l, hl, A, B, N, k, rfl, hA, hN, hd⟩, hb, q⟩ := h

  have hsl : ∀ H1, SameX st H H1 → SqL K H1 a (ns.map V.int) := fun H1 e => (hscr.x e).sl
  have fin : ∀ (x : Int) (l : List V) (H1 : Hp), SameX st H H1 → H1 st = some (.lst l) → DrawSt l → Q (.int (x % base)) H1 := fun x l H1 e h d =>
    q _ _ (Int.emod_nonneg _ (by omega)) (Int.emod_lt_of_pos _ hb) ⟨⟨ns, hscr.x e⟩, l, h, d⟩ e
  have tail : ∀ (A B N k : Int) (w : Option V) (H' : Hp), 0 ≤ A → 0 ≤ N → (k = 2 ∨ N < 10 ^ 18) → SameX st H H' → H' st = some (.lst [.int A, .int B, .int N, .int k]) →
      t__law_draw_1 K E { nx := fun _ H' => Q .non H', rt := Q } [some (.ref a), some (.ref st), some (.int base), w, none, none, none] H' := by
    intro A B N k w H' hA hN hk hs hl
    have h1000 : 0 ≤ N / 1000 := Int.ediv_nonneg hN (by decide)
    walk_at "gx"
    refine ifd (fun hk2 => ?_) (fun hk2 => ?_)
    · walk_at "gx"
      refine ifd (fun hz => ?_) (fun hz => ?_)
      · walk_at "gx"
        exact fin _ _ _ (hs.trans (SameX.upd.trans (SameX.upd.trans SameX.upd))) upd_same ⟨_, _, _, _, rfl, hA, h1000, .inl rfl⟩
      · walk_at "gx"
        exact fin _ _ _ (hs.trans (SameX.upd.trans SameX.upd)) upd_same ⟨_, _, _, _, rfl, hA, h1000, .inr (.inl hk2)⟩
    · have hN2 : N < 10 ^ 18 := by omega
      walk_at "gx"
      exact fin _ _ _ (hs.trans SameX.upd) upd_same ⟨_, _, _, _, rfl, hA, hN, .inr (.inr hN2)⟩
  walk_at "go"
  refine ifd (fun hB => ?_) (fun hB => ?_)
  · walk_at "go"
    rw [List.length_map]
    refine ifd (fun hlen => ?_) (fun hlen => ?_)
    · exact q 0 _ (Int.le_refl 0) hb ⟨⟨ns, hscr.x SameX.upd⟩, _, upd_same, _, _, _, _, rfl, by omega, hN, hd⟩ SameX.upd
    · obtain ⟨x, hx⟩ := at_ints (ns := ns) hA (by omega)
      walk_at "go"
      refine ifd (fun hbig => ?_) (fun hbig => ?_)
      · walk_at "go"
        exact ⟨tail _ _ _ _ _ _ (by omega) (by omega) (.inl rfl) (SameX.upd.trans (SameX.upd.trans (SameX.upd.trans (SameX.upd.trans (SameX.upd.trans SameX.upd))))) upd_same⟩
      · have hb2 : ¬ ((10 : Int) ^ 18 ≤ x.natAbs) := hbig
        exact ⟨tail _ _ _ _ _ _ (by omega) (by omega) (.inr (by omega)) (SameX.upd.trans (SameX.upd.trans (SameX.upd.trans SameX.upd))) upd_same⟩
  · exact ⟨tail A B N k _ H hA hN (by omega) (SameX.refl _ _) hl⟩
end S
namespace S
open PySem PySem.Spec PyProof.Rows L2
def t__law_wide_b1 (K : Frag) (E : XK) : TS :=
    tAsg (tOp (oAdd K) (tOp oMul (dVar 3) (tC (.int 1000))) (dCall (sp__law_draw K) (EW E) (tCons (dVar 0) (tCons (dVar 1) (tCons (tC (.int 1000)) (tNil)))))) (gName 3)
def t__law_wide_2 (K : Frag) (E : XK) : TS :=
    tRet (tOp oMod (tCB cInt (tCons (dVar 3) (tNil))) (dVar 2))
def t__law_wide_1 (K : Frag) (E : XK) : TS :=
    tSeq (dFor (iRng (tCons (tC (.int 6)) (tNil))) (gName 4) (t__law_wide_b1 K E))
    (stop (t__law_wide_2 K E))
def t__law_wide (K : Frag) (E : XK) : TS :=
    tSeq (tAsg (tC (.int 0)) (gName 3))
    (stop (t__law_wide_1 K E))
end S
-- fn: _law_wide
-- law: k03
-- deps: D0
namespace S
open PySem PySem.Spec PyProof.Rows L2
def sp__law_wide (K : Frag) : Sp := fun vs H Q _ => ∃ (a st : Addr) (lim : Int), vs = [.ref a, .ref st, .int lim] ∧ Ctx K H a st ∧ 0 < lim ∧
  ∀ (r : Int) (H' : Hp), 0 ≤ r → r < lim → Ctx K H' a st → SameX st H H' → Q (.int r) H'
theorem pure__law_wide {K : Frag} (vs : List V) (H : Hp) (Q : VK) (E : XK) (h : sp__law_wide K vs H Q E) : t__law_wide K E { nx := fun _ H' => Q .non H', rt := Q } (start ["_law_script", "_law_state", "_law_limit", "_law_number", "_law_k"] vs) H := by
  obtain ⟨a, st, lim, rfl, hc, hl, q⟩ := h
  walk_at "gx"
  refine for_rng (fun i σ H1 => ∃ (n : Int) (k : Option V), σ = [some (.ref a), some (.ref st), some (.int lim), some (.int n), k] ∧ Ctx K H1 a st ∧ SameX st H H1) ⟨0, none, rfl, hc, SameX.refl _ _⟩ ?_ ?_
  · rintro i σ H1 hi ⟨n, k, rfl, c1, e1⟩
    walk_at "gx"
    refine ⟨a, st, _, rfl, c1, by decide, fun r H2 h0 h1 c2 e2 => ?_⟩
    exact ⟨_, _, rfl, c2, e1.trans e2⟩
  · rintro σ H1 ⟨n, k, rfl, c1, e1⟩
    walk_at "gx"
    exact q _ _ (Int.emod_nonneg _ (by omega)) (Int.emod_lt_of_pos _ hl) c1 e1
end S
namespace S
open PySem PySem.Spec PyProof.Rows L2
def t__law_size_5 (K : Frag) (E : XK) : TS :=
    tRet (tOp (oAdd K) (dCall (sp__law_wide K) (EW E) (tCons (dVar 0) (tCons (dVar 1) (tCons (tOp oPow (tC (.int 10)) (tC (.int 18))) (tNil))))) (tC (.int 1)))
def t__law_size_4 (K : Frag) (E : XK) : TS :=
    tSeq (dIfS (dCmpT (oEq K) (dVar 2) (tC (.int 3))) (tRet (tOp oSub (tOp oPow (tC (.int 10)) (tC (.int 18))) (dCall (sp__law_draw K) (EW E) (tCons (dVar 0) (tCons (dVar 1) (tCons (tC (.int 1000)) (tNil))))))) (tNext))
    (stop (t__law_size_5 K E))
def t__law_size_3 (K : Frag) (E : XK) : TS :=
    tSeq (dIfS (dCmpT (oEq K) (dVar 2) (tC (.int 2))) (tRet (dCall (sp__law_draw K) (EW E) (tCons (dVar 0) (tCons (dVar 1) (tCons (tC (.int 61)) (tNil)))))) (tNext))
    (stop (t__law_size_4 K E))
def t__law_size_2 (K : Frag) (E : XK) : TS :=
    tSeq (dIfS (dCmpT (oEq K) (dVar 2) (tC (.int 1))) (tRet (dCall (sp__law_draw K) (EW E) (tCons (dVar 0) (tCons (dVar 1) (tCons (tC (.int 13)) (tNil)))))) (tNext))
    (stop (t__law_size_3 K E))
def t__law_size_1 (K : Frag) (E : XK) : TS :=
    tSeq (dIfS (dCmpT (oEq K) (dVar 2) (tC (.int 0))) (tRet (dCall (sp__law_draw K) (EW E) (tCons (dVar 0) (tCons (dVar 1) (tCons (tC (.int 4)) (tNil)))))) (tNext))
    (stop (t__law_size_2 K E))
def t__law_size (K : Frag) (E : XK) : TS :=
    tSeq (tAsg (dCall (sp__law_draw K) (EW E) (tCons (dVar 0) (tCons (dVar 1) (tCons (tC (.int 6)) (tNil))))) (gName 2))
    (stop (t__law_size_1 K E))
end S
-- fn: _law_size
-- law: k03
-- deps: D0 _law_wide
namespace S
open PySem PySem.Spec PyProof.Rows L2
/-- a size from 0 to 10 ** 18 -/
def sp__law_size (K : Frag) : Sp := fun vs H Q _ => ∃ (a st : Addr), vs = [.ref a, .ref st] ∧ Ctx K H a st ∧
  ∀ (r : Int) (H' : Hp), 0 ≤ r → r ≤ 10 ^ 18 → Ctx K H' a st → SameX st H H' → Q (.int r) H'
theorem pure__law_size {K : Frag} (vs : List V) (H : Hp) (Q : VK) (E : XK) (h : sp__law_size K vs H Q E) : t__law_size K E { nx := fun _ H' => Q .non H', rt := Q } (start ["_law_script", "_law_state", "_law_kind"] vs) H := by
  obtain ⟨a, st, rfl, hc, q⟩ := h
  walk_at "gx"
  refine ⟨a, st, _, rfl, hc, by decide, fun kd H1 h0 h1 c1 e1 => ?_⟩
  walk_at "gx"
  refine ifd (fun _ => ?_) fun _ => ?_
  · exact ⟨a, st, _, rfl, c1, by decide, fun r H2 h0 h1 c2 e2 => q _ _ h0 (by omega) c2 (e1.trans e2)⟩
  walk_at "gx"
  refine ifd (fun _ => ?_) fun _ => ?_
  · exact ⟨a, st, _, rfl, c1, by decide, fun r H2 h0 h1 c2 e2 => q _ _ h0 (by omega) c2 (e1.trans e2)⟩
  walk_at "gx"
  refine ifd (fun _ => ?_) fun _ => ?_
  · exact ⟨a, st, _, rfl, c1, by decide, fun r H2 h0 h1 c2 e2 => q _ _ h0 (by omega) c2 (e1.trans e2)⟩
  walk_at "gx"
  refine ifd (fun _ => ?_) fun _ => ?_
  · walk_at "gx"
    refine ⟨a, st, _, rfl, c1, by decide, fun r H2 h0 h1 c2 e2 => q _ _ (show (0 : Int) ≤ 10 ^ 18 - r by omega) (show 10 ^ 18 - r ≤ (10 : Int) ^ 18 by omega) c2 (e1.trans e2)⟩
  walk_at "gx"
  refine ⟨a, st, _, rfl, c1, by decide, fun r H2 h0 h1 c2 e2 => ?_⟩
  have h1' : r < 10 ^ 18 := h1
  exact q _ _ (show (0 : Int) ≤ r + 1 by omega) (show r + 1 ≤ (10 : Int) ^ 18 by omega) c2 (e1.trans e2)
end S
namespace S
open PySem PySem.Spec PyProof.Rows L2
def t__law_ends_b1_5 (K : Frag) (E : XK) : TS :=
    tAsg (tOp (oAdd K) (dVar 5) (tC (.int 1))) (gName 5)
def t__law_ends_b1_4 (K : Frag) (E : XK) : TS :=
    tSeq (dIfS (dCmpT oLt (dVar 5) (dVar 2)) (tDrop (dML K mApp (dVar 4) (tCons (dVar 5) (tNil)))) (tNext))
    (stop (t__law_ends_b1_5 K E))
def t__law_ends_b1_3 (K : Frag) (E : XK) : TS :=
    tSeq (dIfS (dCmpT (oEq K) (dVar 7) (tC (.int 3))) (tAsg (tOp (oAdd K) (dVar 5) (dCall (sp__law_wide K) (EW E) (tCons (dVar 0) (tCons (dVar 1) (tCons (tOp (oAdd K) (dVar 2) (tC (.int 1))) (tNil)))))) (gName 5)) (tNext))
    (stop (t__law_ends_b1_4 K E))
def t__law_ends_b1_2 (K : Frag) (E : XK) : TS :=
    tSeq (dIfS (dCmpT (oEq K) (dVar 7) (tC (.int 2))) (tAsg (tOp (oAdd K) (dVar 5) (dCall (sp__law_wide K) (EW E) (tCons (dVar 0) (tCons (dVar 1) (tCons (tOp (oAdd K) (tOp oFdiv (dVar 2) (tC (.int 8))) (tC (.int 1))) (tNil)))))) (gName 5)) (tNext))
    (stop (t__law_ends_b1_3 K E))
def t__law_ends_b1_1 (K : Frag) (E : XK) : TS :=
    tSeq (dIfS (dCmpT (oEq K) (dVar 7) (tC (.int 1))) (tAsg (tOp (oAdd K) (dVar 5) (dCall (sp__law_draw K) (EW E) (tCons (dVar 0) (tCons (dVar 1) (tCons (tC (.int 4)) (tNil)))))) (gName 5)) (tNext))
    (stop (t__law_ends_b1_2 K E))
def t__law_ends_b1 (K : Frag) (E : XK) : TS :=
    tSeq (tAsg (dCall (sp__law_draw K) (EW E) (tCons (dVar 0) (tCons (dVar 1) (tCons (tC (.int 4)) (tNil))))) (gName 7))
    (stop (t__law_ends_b1_1 K E))
def t__law_ends_3 (K : Frag) (E : XK) : TS :=
    tRet (dVar 4)
def t__law_ends_2 (K : Frag) (E : XK) : TS :=
    tSeq (dFor (iRng (tCons (dCall (sp__law_draw K) (EW E) (tCons (dVar 0) (tCons (dVar 1) (tCons (tOp (oAdd K) (dVar 3) (tC (.int 1))) (tNil))))) (tNil))) (gName 6) (t__law_ends_b1 K E))
    (stop (t__law_ends_3 K E))
def t__law_ends_1 (K : Frag) (E : XK) : TS :=
    tSeq (tAsg (tC (.int 0)) (gName 5))
    (stop (t__law_ends_2 K E))
def t__law_ends (K : Frag) (E : XK) : TS :=
    tSeq (tAsg (dLst (tNil)) (gName 4))
    (stop (t__law_ends_1 K E))
end S
-- fn: _law_ends
-- law: k03
-- deps: D0 _law_wide
namespace S
open PySem PySem.Spec PyProof.Rows L2
/-- a new list of at most so many ends within the size -/
def sp__law_ends (K : Frag) : Sp := fun vs H Q _ => ∃ (a st : Addr) (size most : Int), vs = [.ref a, .ref st, .int size, .int most] ∧ Ctx K H a st ∧ 0 ≤ size ∧ size ≤ 10 ^ 18 ∧ 0 ≤ most ∧ most ≤ 1000 ∧
  ∀ (p : Addr) (ns : List Int) (H' : Hp), H p = none → H' p = some (.lst (ns.map V.int)) → Ends size ns → (ns.length : Int) ≤ most → Ctx K H' a st → SameX st H H' → Q (.ref p) H'
def inv__law_ends (K : Frag) (H : Hp) (a st p : Addr) (size most : Int) (i : Nat) (σ : L2.St) (H2 : Hp) : Prop := ∃ (at_ : Int) (ns : List Int) (k kd : Option V),
  σ = [some (.ref a), some (.ref st), some (.int size), some (.int most), some (.ref p), some (.int at_), k, kd] ∧
  H2 p = some (.lst (ns.map V.int)) ∧ Ends size ns ∧ (∀ x ∈ ns, x < at_) ∧ 0 ≤ at_ ∧ ns.length ≤ i ∧ Ctx K H2 a st ∧ SameX st H H2
theorem pure__law_ends {K : Frag} (vs : List V) (H : Hp) (Q : VK) (E : XK) (h : sp__law_ends K vs H Q E) : t__law_ends K E { nx := fun _ H' => Q .non H', rt := Q } (start ["_law_script", "_law_state", "_law_size_here", "_law_most", "_law_ends_here", "_law_at", "_law_k", "_law_kind"] vs) H := by
  obtain ⟨a, st, size, most, rfl, hc, hs0, hs1, hm0, hm1, q⟩ := h
  walk_at "gx"
  refine ⟨fun p hp => ?_⟩
  have cp : Ctx K (upd H p (.lst [])) a st := hc.mut hc hp
  walk_at "gx"
  refine ⟨a, st, _, rfl, cp, show 0 < most + 1 by omega, fun cnt H1 h0 h1 c1 e1 => ?_⟩
  have h1' : cnt < most + 1 := h1
  have npst : p ≠ st := by
    obtain ⟨_, l, hl, _⟩ := hc
    exact (ne_of_none hl hp).symm
  have hp1 : H1 p = some (.lst []) := e1 _ _ upd_same npst
  have e0 : SameX st H H1 := fun b o hb n => e1 b o (by rw [upd_ne (ne_of_none hb hp)]; exact hb) n
  walk_at "gx"
  refine for_rng (inv__law_ends K H a st p size most) ⟨0, [], none, none, rfl, hp1, ⟨.nil, fun _ z => nomatch z⟩, fun _ z => (nomatch z), Int.le_refl _, Nat.le_refl _, c1, e0⟩ ?_ ?_
  · rintro i σ H2 hi ⟨at_, ns, k, kd, rfl, hl, hE, hb, h0, hlen, c2, e2⟩
    walk_at "gx"
    refine ⟨a, st, _, rfl, c2, by decide, fun kind H3 k0 k1 c3 e3 => ?_⟩
    have hl3 : H3 p = some (.lst (ns.map V.int)) := e3 _ _ hl npst
    -- behind the three ifs: at_ has grown
    have tail : ∀ (D : L2.Ends) (at2 : Int) (H4 : Hp), (∀ σ H', inv__law_ends K H a st p size most (i + 1) σ H' → D.nx σ H') → at_ ≤ at2 → H4 p = some (.lst (ns.map V.int)) → Ctx K H4 a st → SameX st H H4 →
        t__law_ends_b1_4 K E D [some (.ref a), some (.ref st), some (.int size), some (.int most), some (.ref p), some (.int at2), some (.int i), some (.int kind)] H4 := by
      intro D at2 H4 hD hge hl4 c4 e4
      walk_at "gx"
      refine ifd (fun hlt => ?_) (fun hlt => ?_)
      · walk_at "gx"
        refine hD _ _ ⟨at2 + 1, ns ++ [at2], _, _, rfl, by rw [List.map_append]; exact upd_same, hE.snoc (fun x hx => Int.lt_of_lt_of_le (hb x hx) hge) (by omega) hlt, fun x hx => ?_, by omega, by rw [List.length_append]; show ns.length + 1 ≤ i + 1; omega, c4.mut hc hp, e4.mut hp⟩
        rcases List.mem_append.mp hx with hx | hx
        · have := hb x hx; omega
        · rw [List.mem_singleton.mp hx]; omega
      · walk_at "gx"
        exact hD _ _ ⟨at2 + 1, ns, _, _, rfl, hl4, hE, fun x hx => by have := hb x hx; omega, by omega, by omega, c4, e4⟩
    walk_at "gx"
    refine ifd (fun hk => ?_) (fun hk => ?_)
    · walk_at "gx"
      refine ⟨a, st, _, rfl, c3, by decide, fun d H4 d0 d1 c4 e4 => ?_⟩
      walk_at "gx"
      refine iff' (by omega) ?_
      walk_at "gx"
      refine iff' (by omega) ?_
      exact ⟨tail _ (at_ + d) H4 (fun _ _ z => z) (by omega) (e4 _ _ hl3 npst) c4 ((e2.trans e3).trans e4)⟩
    walk_at "gx"
    refine ifd (fun hk => ?_) (fun hk => ?_)
    · walk_at "gx"
      refine ⟨a, st, _, rfl, c3, show 0 < size / 8 + 1 by omega, fun d H4 d0 d1 c4 e4 => ?_⟩
      walk_at "gx"
      refine iff' (by omega) ?_
      exact ⟨tail _ (at_ + d) H4 (fun _ _ z => z) (by omega) (e4 _ _ hl3 npst) c4 ((e2.trans e3).trans e4)⟩
    walk_at "gx"
    refine ifd (fun hk => ?_) (fun hk => ?_)
    · walk_at "gx"
      refine ⟨a, st, _, rfl, c3, show 0 < size + 1 by omega, fun d H4 d0 d1 c4 e4 => ?_⟩
      exact ⟨tail _ (at_ + d) H4 (fun _ _ z => z) (by omega) (e4 _ _ hl3 npst) c4 ((e2.trans e3).trans e4)⟩
    · exact ⟨tail _ at_ H3 (fun _ _ z => z) (Int.le_refl _) hl3 c3 (e2.trans e3)⟩
  · rintro σ H2 ⟨at_, ns, k, kd, rfl, hl, hE, hb, h0, hlen, c2, e2⟩
    walk_at "gx"
    exact q p ns H2 hp hl hE (by omega) c2 e2
end S
namespace S
open PySem PySem.Spec PyProof.Rows L2
def t__law_in_b1 (K : Frag) (E : XK) : TS :=
    dIfS (dCmpT oLe (dVar 3) (dVar 1)) (tAsg (dNotV (dVar 2)) (gName 2)) (tNext)
def t__law_in_2 (K : Frag) (E : XK) : TS :=
    tRet (dVar 2)
def t__law_in_1 (K : Frag) (E : XK) : TS :=
    tSeq (dFor (iSeq K (dVar 0)) (gName 3) (t__law_in_b1 K E))
    (stop (t__law_in_2 K E))
def t__law_in (K : Frag) (E : XK) : TS :=
    tSeq (tAsg (tC (.bl false)) (gName 2))
    (stop (t__law_in_1 K E))
end S
-- fn: _law_in
-- law: k03
-- deps: D0
namespace S
open PySem PySem.Spec PyProof.Rows L2
/-- an odd number of the ends is at most the row -/
def inB (ends : List Int) (row : Int) : Bool := ends.foldl (fun b e => if e ≤ row then !b else b) false
def sp__law_in (K : Frag) : Sp := fun vs H Q _ => ∃ (p : Addr) (ns : List Int) (row : Int), vs = [.ref p, .int row] ∧ SqA K H p (ns.map V.int) ∧ Q (.bl (inB ns row)) H
theorem foldl_take {α β : Type} (f : β → α → β) (b : β) {xs : List α} {i : Nat} {x : α} (h : xs[i]? = some x) : (xs.take (i + 1)).foldl f b = f ((xs.take i).foldl f b) x := by
  obtain ⟨hi, e⟩ := List.getElem?_eq_some_iff.mp h
  rw [List.take_succ, List.foldl_append, h]
  rfl
theorem map_get {α : Type} {g : α → V} {ns : List α} {i : Nat} {x : V} (h : (ns.map g)[i]? = some x) : ∃ y, ns[i]? = some y ∧ x = g y := by
  rw [List.getElem?_map] at h
  cases e : ns[i]? with
  | none => rw [e] at h; cases h
  | some y => rw [e] at h; exact ⟨y, rfl, (Option.some.inj h).symm⟩
theorem pure__law_in {K : Frag} (vs : List V) (H : Hp) (Q : VK) (E : XK) (h : sp__law_in K vs H Q E) : t__law_in K E { nx := fun _ H' => Q .non H', rt := Q } (start ["_law_ends_here", "_law_row", "_law_inside", "_law_end"] vs) H := by
  obtain ⟨p, ns, row, rfl, hp, q⟩ := h
  walk_at "gx"
  refine for_seq (fun i σ H1 => H1 = H ∧ ∃ (k : Option V), σ = [some (.ref p), some (.int row), some (.bl (inB (ns.take i) row)), k]) hp ⟨rfl, none, rfl⟩ (fun i σ H1 _ z => by rw [z.1]; exact Same.stay (Same.refl _)) ?_ ?_
  · rintro i x σ H1 hx ⟨rfl, k, rfl⟩
    obtain ⟨e, he, rfl⟩ := map_get hx
    have st : inB (ns.take (i + 1)) row = if e ≤ row then !(inB (ns.take i) row) else inB (ns.take i) row := foldl_take _ _ he
    walk_at "gx"
    refine ifd (fun hl => ?_) (fun hl => ?_)
    · walk_at "gx"
      rw [if_pos hl] at st
      exact ⟨rfl, _, by rw [st]; rfl⟩
    · rw [if_neg hl] at st
      exact ⟨rfl, _, by rw [st]; rfl⟩
  · rintro σ H1 ⟨rfl, k, rfl⟩
    rw [List.length_map, List.take_length]
    exact ⟨q⟩
theorem inB_cons (x : Int) (l : List Int) (row : Int) : inB (x :: l) row = if x ≤ row then !(inB l row) else inB l row := by
  have key : ∀ (l : List Int) (b : Bool), l.foldl (fun b e => if e ≤ row then !b else b) (!b) = !(l.foldl (fun b e => if e ≤ row then !b else b) b) := by
    intro l
    induction l with
    | nil => intro b; rfl
    | cons y l ih =>
      intro b
      simp only [List.foldl_cons]
      by_cases h : y ≤ row
      · rw [if_pos h, if_pos h, ih]
      · rw [if_neg h, if_neg h, ih]
  unfold inB
  simp only [List.foldl_cons]
  by_cases h : x ≤ row
  · rw [if_pos h, if_pos h, key]
  · rw [if_neg h, if_neg h]
end S
namespace S
open PySem PySem.Spec PyProof.Rows L2
def t__law_is_number (K : Frag) (E : XK) : TS :=
    tRet (dAndV (tCB (cIsi K) (tCons (dVar 0) (tCons (tC (.ty "int")) (tNil)))) (dNotV (tCB (cIsi K) (tCons (dVar 0) (tCons (tC (.ty "bool")) (tNil))))))
end S
-- fn: _law_is_number
-- law: k03
-- deps: D0
namespace S
open PySem PySem.Spec PyProof.Rows L2
def sp__law_is_number (K : Frag) : Sp := fun vs H Q _ => ∃ (i : Int), vs = [.int i] ∧ Q (.bl true) H
theorem isi_int {K : Frag} {H : Hp} {i : Int} {k : Bool → Prop} (q : k true) : Isi K H (.int i) (.type "int") k := Isi.of (.base (.int i)) rfl q
theorem isi_int_bool {K : Frag} {H : Hp} {i : Int} {k : Bool → Prop} (q : k false) : Isi K H (.int i) (.type "bool") k := Isi.of (.base (.int i)) rfl q
theorem pure__law_is_number {K : Frag} (vs : List V) (H : Hp) (Q : VK) (E : XK) (h : sp__law_is_number K vs H Q E) : t__law_is_number K E { nx := fun _ H' => Q .non H', rt := Q } (start ["_law_x"] vs) H := by
  obtain ⟨i, rfl, q⟩ := h
  refine isi_int ?_
  refine isi_int_bool ?_
  exact q
end S
namespace S
open PySem PySem.Spec PyProof.Rows L2
def t_next_end_1 (K : Frag) (E : XK) : TS :=
    tRet (tOp (oIx K) (dVar 2) (dVar 3))
def t_next_end (K : Frag) (E : XK) : TS :=
    tSeq (dIfS (dOr (dCmpT (oEq K) (dVar 3) (tCB (cLen K) (tCons (dVar 2) (tNil)))) (dAnd (dCmpT oLt (dVar 1) (tCB (cLen K) (tCons (dVar 0) (tNil)))) (dCmpT oLt (tOp (oIx K) (dVar 0) (dVar 1)) (tOp (oIx K) (dVar 2) (dVar 3))))) (tRet (tOp (oIx K) (dVar 0) (dVar 1))) (tNext))
    (stop (t_next_end_1 K E))
end S
-- fn: next_end
-- law: k02
-- deps: D0
namespace S
open PySem PySem.Spec PyProof.Rows L2
def nextEnd : List Int → List Int → Int
  | x :: _, [] => x
  | x :: _, y :: _ => if x < y then x else y
  | [], y :: _ => y
  | [], [] => 0
def sp_next_end (K : Frag) : Sp := fun vs H Q _ => ∃ (p q : Addr) (one other : List Int) (i j : Nat), vs = [.ref p, .int (i : Int), .ref q, .int (j : Int)] ∧ SqA K H p (one.map V.int) ∧ SqA K H q (other.map V.int) ∧
  i ≤ one.length ∧ j ≤ other.length ∧ (i < one.length ∨ j < other.length) ∧ Q (.int (nextEnd (one.drop i) (other.drop j))) H
theorem at_map {ns : List Int} {i : Nat} (h : i < ns.length) : atI (ns.map V.int) (i : Int) = some (.int ns[i]) := atI_nat (by rw [List.getElem?_map, List.getElem?_eq_getElem h]; rfl)
theorem pure_next_end {K : Frag} (vs : List V) (H : Hp) (Q : VK) (E : XK) (h : sp_next_end K vs H Q E) : t_next_end K E { nx := fun _ H' => Q .non H', rt := Q } (start ["one", "i", "other", "j"] vs) H := by
  obtain ⟨p, q, one, other, i, j, rfl, hp, hq, hi, hj, hor, k⟩ := h
  walk_at "gx"
  rw [List.length_map]
  refine ifd (fun hjl => ?_) (fun hjl => ?_)
  · have hil : i < one.length := by omega
    have e : other.drop j = [] := List.drop_eq_nil_of_le (by omega)
    have e2 := List.drop_eq_getElem_cons hil
    rw [e, e2] at k
    have hx := at_map hil
    walk_at "gx"
    exact k
  · have hjl2 : j < other.length := by omega
    have e := List.drop_eq_getElem_cons hjl2
    have hy := at_map hjl2
    walk_at "gx"
    rw [List.length_map]
    refine ifd (fun hil => ?_) (fun hil => ?_)
    · have hil2 : i < one.length := by omega
      have hx := at_map hil2
      have e2 := List.drop_eq_getElem_cons hil2
      rw [e, e2] at k
      walk_at "gx"
      refine ifd (fun hlt => ?_) (fun hlt => ?_)
      · walk_at "gx"
        have k2 : Q (.int (if one[i] < other[j] then one[i] else other[j])) H := k
        rw [if_pos hlt] at k2; exact k2
      · walk_at "gx"
        have k2 : Q (.int (if one[i] < other[j] then one[i] else other[j])) H := k
        rw [if_neg hlt] at k2; exact k2
    · have e2 : one.drop i = [] := List.drop_eq_nil_of_le (by omega)
      rw [e, e2] at k
      walk_at "gx"
      exact k
end S
namespace S
open PySem PySem.Spec PyProof.Rows L2
def t_swept_b1_3 (K : Frag) (E : XK) : TS :=
    dIfS (dCmpT (oNe K) (tOp (oIx K) (dVar 2) (tOp (oAdd K) (tOp oMul (tC (.int 2)) (dVar 6)) (dVar 7))) (dVar 8)) (tSeq (tAsg (tOp oSub (tC (.int 1)) (dVar 8)) (gName 8))
    (tDrop (dML K mApp (dVar 3) (tCons (dVar 9) (tNil))))) (tNext)
def t_swept_b1_2 (K : Frag) (E : XK) : TS :=
    tSeq (dIfS (dAnd (dCmpT oLt (dVar 5) (tCB (cLen K) (tCons (dVar 1) (tNil)))) (dCmpT (oEq K) (tOp (oIx K) (dVar 1) (dVar 5)) (dVar 9))) (tSeq (tAsg (tOp oSub (tC (.int 1)) (dVar 7)) (gName 7))
    (tAsg (tOp (oAdd K) (dVar 5) (tC (.int 1))) (gName 5))) (tNext))
    (stop (t_swept_b1_3 K E))
def t_swept_b1_1 (K : Frag) (E : XK) : TS :=
    tSeq (dIfS (dAnd (dCmpT oLt (dVar 4) (tCB (cLen K) (tCons (dVar 0) (tNil)))) (dCmpT (oEq K) (tOp (oIx K) (dVar 0) (dVar 4)) (dVar 9))) (tSeq (tAsg (tOp oSub (tC (.int 1)) (dVar 6)) (gName 6))
    (tAsg (tOp (oAdd K) (dVar 4) (tC (.int 1))) (gName 4))) (tNext))
    (stop (t_swept_b1_2 K E))
def t_swept_b1 (K : Frag) (E : XK) : TS :=
    tSeq (tAsg (dCall (sp_next_end K) (EW E) (tCons (dVar 0) (tCons (dVar 4) (tCons (dVar 1) (tCons (dVar 5) (tNil)))))) (gName 9))
    (stop (t_swept_b1_1 K E))
def t_swept_4 (K : Frag) (E : XK) : TS :=
    tRet (tCB (cTuple K) (tCons (dVar 3) (tNil)))
def t_swept_3 (K : Frag) (E : XK) : TS :=
    tSeq (dWhile (dOr (dCmpT oLt (dVar 4) (tCB (cLen K) (tCons (dVar 0) (tNil)))) (dCmpT oLt (dVar 5) (tCB (cLen K) (tCons (dVar 1) (tNil))))) (t_swept_b1 K E))
    (stop (t_swept_4 K E))
def t_swept_2 (K : Frag) (E : XK) : TS :=
    tSeq (tAsg3 (tC (.int 0)) (gName 6) (gName 7) (gName 8))
    (stop (t_swept_3 K E))
def t_swept_1 (K : Frag) (E : XK) : TS :=
    tSeq (tAsg2 (tC (.int 0)) (gName 4) (gName 5))
    (stop (t_swept_2 K E))
def t_swept (K : Frag) (E : XK) : TS :=
    tSeq (tAsg (dLst (tNil)) (gName 3))
    (stop (t_swept_1 K E))
end S
-- fn: swept
-- law: k02
-- deps: D0 next_end _law_in
namespace S
open PySem PySem.Spec PyProof.Rows L2
/-- one step of the sweep: at, the bits behind, the bit so far; the ends and the bit -/
def sweepAt (r : Bool → Bool → Bool) (at_ : Int) (f s b : Bool) (rest : List Int) : List Int := if r f s = b then rest else at_ :: rest
def sweep (r : Bool → Bool → Bool) : List Int → List Int → Bool → Bool → List Int
  | [], [], _, _ => []
  | x :: xs, [], f, s => sweepAt r x (!f) s (r f s) (sweep r xs [] (!f) s)
  | [], y :: ys, f, s => sweepAt r y f (!s) (r f s) (sweep r [] ys f (!s))
  | x :: xs, y :: ys, f, s =>
    if x < y then sweepAt r x (!f) s (r f s) (sweep r xs (y :: ys) (!f) s)
    else if x = y then sweepAt r x (!f) (!s) (r f s) (sweep r xs ys (!f) (!s))
    else sweepAt r y f (!s) (r f s) (sweep r (x :: xs) ys f (!s))
  termination_by xs ys => xs.length + ys.length
def ruleV (r : Bool → Bool → Bool) : List V := [.int (b2i (r false false)), .int (b2i (r false true)), .int (b2i (r true false)), .int (b2i (r true true))]
theorem rule_at (r : Bool → Bool → Bool) (f s : Bool) : atI (ruleV r) (2 * b2i f + b2i s) = some (.int (b2i (r f s))) := by
  cases f <;> cases s
  · exact atI_nat (j := 0) rfl
  · exact atI_nat (j := 1) rfl
  · exact atI_nat (j := 2) rfl
  · exact atI_nat (j := 3) rfl
theorem b2i_not (b : Bool) : 1 - b2i b = b2i (!b) := by cases b <;> rfl
def sp_swept (K : Frag) : Sp := fun vs H Q _ => ∃ (p q t : Addr) (one other : List Int) (r : Bool → Bool → Bool), vs = [.ref p, .ref q, .ref t] ∧ SqA K H p (one.map V.int) ∧ SqA K H q (other.map V.int) ∧ SqT K H t (ruleV r) ∧ r false false = false ∧
  one.length ≤ 100000 ∧ other.length ≤ 100000 ∧ ∀ (u : Addr) (H' : Hp), Same H H' → SqT K H' u ((sweep r one other false false).map V.int) → Q (.ref u) H'
/-- between two turns -/
def inv_swept (K : Frag) (H : Hp) (p q t e : Addr) (one other : List Int) (r : Bool → Bool → Bool) (m : Nat) (σ : L2.St) (H1 : Hp) : Prop := ∃ (i j : Nat) (f s : Bool) (L : List Int) (w : Option V),
  σ = [some (.ref p), some (.ref q), some (.ref t), some (.ref e), some (.int (i : Int)), some (.int (j : Int)), some (.int (b2i f)), some (.int (b2i s)), some (.int (b2i (r f s))), w] ∧
  H1 e = some (.lst (L.map V.int)) ∧ Same H H1 ∧ i ≤ one.length ∧ j ≤ other.length ∧ m = (one.length - i) + (other.length - j) ∧ L.length ≤ i + j ∧ L ++ sweep r (one.drop i) (other.drop j) f s = sweep r one other false false
theorem pure_swept {K : Frag} (vs : List V) (H : Hp) (Q : VK) (E : XK) (h : sp_swept K vs H Q E) : t_swept K E { nx := fun _ H' => Q .non H', rt := Q } (start ["one", "other", "rule", "ends", "i", "j", "first", "second", "bit", "at"] vs) H := by
  obtain ⟨p, q, t, one, other, r, rfl, hp, hq, ht, h00, hl1, hl2, k⟩ := h
  walk_at "gx"
  refine ⟨fun e he => ?_⟩
  walk_at "gx"
  refine ⟨inv_swept K H p q t e one other r, ⟨_, 0, 0, false, false, [], none, by rw [h00]; rfl, upd_same, same_new he, Nat.zero_le _, Nat.zero_le _, rfl, Nat.zero_le _, rfl⟩, ?_⟩
  rintro m σ H1 ⟨i, j, f, s, L, w, rfl, hL, hs, hi, hj, rfl, hlen, htot⟩
  have hp1 := Same.sqa hs hp
  have hq1 := Same.sqa hs hq
  have ht1 := Same.tup hs ht
  -- the turn itself
  have turn : ∀ (D : L2.Ends), (i < one.length ∨ j < other.length) → (∀ σ' H', (∃ m', m' < (one.length - i) + (other.length - j) ∧ inv_swept K H p q t e one other r m' σ' H') → D.nx σ' H') →
      t_swept_b1 K E D [some (.ref p), some (.ref q), some (.ref t), some (.ref e), some (.int (i : Int)), some (.int (j : Int)), some (.int (b2i f)), some (.int (b2i s)), some (.int (b2i (r f s))), w] H1 := by
    intro D hor hD
    refine ⟨p, q, one, other, i, j, rfl, hp1, hq1, hi, hj, hor, ?_⟩
    -- behind the two ifs
    have tail : ∀ (i2 j2 : Nat) (f2 s2 : Bool) (at_ : Int), i ≤ i2 → j ≤ j2 → i2 ≤ one.length → j2 ≤ other.length → i + j < i2 + j2 → sweep r (one.drop i) (other.drop j) f s = sweepAt r at_ f2 s2 (r f s) (sweep r (one.drop i2) (other.drop j2) f2 s2) →
        t_swept_b1_3 K E D [some (.ref p), some (.ref q), some (.ref t), some (.ref e), some (.int (i2 : Int)), some (.int (j2 : Int)), some (.int (b2i f2)), some (.int (b2i s2)), some (.int (b2i (r f s))), some (.int at_)] H1 := by
      intro i2 j2 f2 s2 at_ h1 h2 h3 h4 h5 hsw
      have hr := rule_at r f2 s2
      walk_at "gx"
      unfold sweepAt at hsw
      refine ifn (fun hne => ?_) (fun heq => ?_)
      · have hne2 : r f2 s2 ≠ r f s := fun z => hne (by rw [z])
        rw [if_neg hne2] at hsw
        have hnot : r f2 s2 = !(r f s) := by revert hne2; cases r f2 s2 <;> cases r f s <;> simp
        walk_at "gx"
        refine hD _ _ ⟨_, ?_, i2, j2, f2, s2, L ++ [at_], some (.int at_), ?_, ?_, Same.mut hs he, h3, h4, rfl, ?_, ?_⟩
        · omega
        · rw [hnot, ← b2i_not]; rfl
        · rw [List.map_append]; exact upd_same
        · rw [List.length_append]; show L.length + 1 ≤ _; omega
        · rw [List.append_assoc, ← htot, hsw]; rfl
      · have heq2 : r f2 s2 = r f s := by revert heq; cases r f2 s2 <;> cases r f s <;> simp [b2i]
        rw [if_pos heq2] at hsw
        refine hD _ _ ⟨_, ?_, i2, j2, f2, s2, L, some (.int at_), ?_, hL, hs, h3, h4, rfl, by omega, ?_⟩
        · omega
        · rw [heq2]
        · rw [← htot, hsw]
    have e1 : ∀ h : i < one.length, one.drop i = one[i] :: one.drop (i + 1) := fun h => List.drop_eq_getElem_cons h
    have e2 : ∀ h : j < other.length, other.drop j = other[j] :: other.drop (j + 1) := fun h => List.drop_eq_getElem_cons h
    have n1 : ¬ i < one.length → one.drop i = [] := fun h => List.drop_eq_nil_of_le (by omega)
    have n2 : ¬ j < other.length → other.drop j = [] := fun h => List.drop_eq_nil_of_le (by omega)
    by_cases hil : i < one.length
    · have hx := at_map hil
      by_cases hjl : j < other.length
      · have hy := at_map hjl
        rw [e1 hil, e2 hjl]
        have hn : nextEnd (one[i] :: one.drop (i + 1)) (other[j] :: other.drop (j + 1)) = if one[i] < other[j] then one[i] else other[j] := rfl
        rw [hn]
        have hsw : sweep r (one.drop i) (other.drop j) f s = if one[i] < other[j] then sweepAt r one[i] (!f) s (r f s) (sweep r (one.drop (i + 1)) (other[j] :: other.drop (j + 1)) (!f) s)
            else if one[i] = other[j] then sweepAt r one[i] (!f) (!s) (r f s) (sweep r (one.drop (i + 1)) (other.drop (j + 1)) (!f) (!s))
            else sweepAt r other[j] f (!s) (r f s) (sweep r (one[i] :: one.drop (i + 1)) (other.drop (j + 1)) f (!s)) := by
          rw [e1 hil, e2 hjl, sweep]
        by_cases hlt : one[i] < other[j]
        · rw [if_pos hlt]
          rw [if_pos hlt, ← e2 hjl] at hsw
          walk_at "gx"
          rw [List.length_map]
          refine ift (by omega) ?_
          walk_at "gx"
          refine ift rfl ?_
          walk_at "gx"
          rw [List.length_map]
          refine ift (by omega) ?_
          walk_at "gx"
          refine iff' (by omega) ?_
          have z := tail (i + 1) j (!f) s one[i] (by omega) (by omega) (by omega) (by omega) (by omega) hsw
          rw [← b2i_not] at z
          exact Stop.mk z
        · rw [if_neg hlt]
          rw [if_neg hlt] at hsw
          by_cases heq : one[i] = other[j]
          · rw [if_pos heq] at hsw
            walk_at "gx"
            rw [List.length_map]
            refine ift (by omega) ?_
            walk_at "gx"
            refine ift heq ?_
            walk_at "gx"
            rw [List.length_map]
            refine ift (by omega) ?_
            walk_at "gx"
            refine ift rfl ?_
            walk_at "go"
            have z := tail (i + 1) (j + 1) (!f) (!s) other[j] (by omega) (by omega) (by omega) (by omega) (by omega) (by rw [hsw, heq])
            rw [← b2i_not, ← b2i_not] at z
            exact Stop.mk z
          · rw [if_neg heq] at hsw
            rw [← e1 hil] at hsw
            walk_at "gx"
            rw [List.length_map]
            refine ift (by omega) ?_
            walk_at "gx"
            refine iff' heq ?_
            walk_at "gx"
            rw [List.length_map]
            refine ift (by omega) ?_
            walk_at "gx"
            refine ift rfl ?_
            walk_at "go"
            have z := tail i (j + 1) f (!s) other[j] (by omega) (by omega) (by omega) (by omega) (by omega) hsw
            rw [← b2i_not] at z
            exact Stop.mk z
      · have hsw : sweep r (one.drop i) (other.drop j) f s = sweepAt r one[i] (!f) s (r f s) (sweep r (one.drop (i + 1)) (other.drop j) (!f) s) := by
          rw [e1 hil, n2 hjl, sweep]
        have hn : nextEnd (one.drop i) (other.drop j) = one[i] := by rw [e1 hil, n2 hjl]; rfl
        rw [hn]
        walk_at "gx"
        rw [List.length_map]
        refine ift (by omega) ?_
        walk_at "gx"
        refine ift rfl ?_
        walk_at "gx"
        rw [List.length_map]
        refine iff' (by omega) ?_
        have z := tail (i + 1) j (!f) s one[i] (by omega) (by omega) (by omega) (by omega) (by omega) hsw
        rw [← b2i_not] at z
        exact Stop.mk z
    · have hjl : j < other.length := by omega
      have hy := at_map hjl
      have hsw : sweep r (one.drop i) (other.drop j) f s = sweepAt r other[j] f (!s) (r f s) (sweep r (one.drop i) (other.drop (j + 1)) f (!s)) := by
        rw [e2 hjl, n1 hil, sweep]
      have hn : nextEnd (one.drop i) (other.drop j) = other[j] := by rw [e2 hjl, n1 hil]; rfl
      rw [hn]
      walk_at "gx"
      rw [List.length_map]
      refine iff' (by omega) ?_
      walk_at "gx"
      rw [List.length_map]
      refine ift (by omega) ?_
      walk_at "gx"
      refine ift rfl ?_
      walk_at "go"
      have z := tail i (j + 1) f (!s) other[j] (by omega) (by omega) (by omega) (by omega) (by omega) hsw
      rw [← b2i_not] at z
      exact Stop.mk z
  walk_at "gx"
  rw [List.length_map]
  refine ifd (fun hil => ?_) (fun hil => ?_)
  · exact turn _ (.inl (by omega)) fun _ _ z => z
  · walk_at "gx"
    rw [List.length_map]
    refine ifd (fun hjl => ?_) (fun hjl => ?_)
    · exact turn _ (.inr (by omega)) fun _ _ z => z
    · walk_at "gx"
      refine ⟨fun u H2 e2 hu => k u H2 (hs.trans e2) ?_⟩
      have e : L = sweep r one other false false := by
        rw [← htot, List.drop_eq_nil_of_le (by omega), List.drop_eq_nil_of_le (by omega), sweep, List.append_nil]
      rw [← e]; exact hu
/-! ### the law of the sweep -/
theorem inB_before {ns : List Int} {row : Int} (h : ∀ x ∈ ns, row < x) : inB ns row = false := by
  induction ns with
  | nil => rfl
  | cons x r ih =>
    rw [inB_cons, if_neg (by have := h x (List.mem_cons_self ..); omega)]
    exact ih fun y hy => h y (List.mem_cons_of_mem _ hy)
/-- what the sweep holds is behind lo and ascends; at each row its bit -/
theorem sweep_law (r : Bool → Bool → Bool) : ∀ (n : Nat) (xs ys : List Int) (f s : Bool) (lo : Int), xs.length + ys.length ≤ n → xs.Pairwise (· < ·) → ys.Pairwise (· < ·) → (∀ x ∈ xs, lo ≤ x) → (∀ y ∈ ys, lo ≤ y) →
    (sweep r xs ys f s).Pairwise (· < ·) ∧ (∀ z ∈ sweep r xs ys f s, lo ≤ z ∧ (z ∈ xs ∨ z ∈ ys)) ∧ ∀ row, ((r f s) ^^ inB (sweep r xs ys f s) row) = r (f ^^ inB xs row) (s ^^ inB ys row) := by
  intro n
  induction n with
  | zero =>
    intro xs ys f s lo hn _ _ _ _
    cases xs with
    | cons x xs => simp at hn
    | nil =>
      cases ys with
      | cons y ys => simp at hn
      | nil =>
        rw [sweep]
        exact ⟨.nil, fun _ z => (nomatch z), fun row => by simp [inB]⟩
  | succ n ih =>
    -- one step at at_, the smallest of both
    have step : ∀ (xs ys xs2 ys2 : List Int) (f s f2 s2 : Bool) (lo at_ : Int), lo ≤ at_ → xs2.length + ys2.length ≤ n → xs2.Pairwise (· < ·) → ys2.Pairwise (· < ·) → (∀ x ∈ xs2, at_ < x) → (∀ y ∈ ys2, at_ < y) →
        (∀ z, z ∈ xs2 → z ∈ xs) → (∀ z, z ∈ ys2 → z ∈ ys) → (at_ ∈ xs ∨ at_ ∈ ys) →
        (∀ row, at_ ≤ row → (f ^^ inB xs row) = (f2 ^^ inB xs2 row) ∧ (s ^^ inB ys row) = (s2 ^^ inB ys2 row)) → (∀ row, row < at_ → inB xs row = false ∧ inB ys row = false) →
        (sweepAt r at_ f2 s2 (r f s) (sweep r xs2 ys2 f2 s2)).Pairwise (· < ·) ∧ (∀ z ∈ sweepAt r at_ f2 s2 (r f s) (sweep r xs2 ys2 f2 s2), lo ≤ z ∧ (z ∈ xs ∨ z ∈ ys)) ∧
          ∀ row, ((r f s) ^^ inB (sweepAt r at_ f2 s2 (r f s) (sweep r xs2 ys2 f2 s2)) row) = r (f ^^ inB xs row) (s ^^ inB ys row) := by
      intro xs ys xs2 ys2 f s f2 s2 lo at_ hlo hn h1 h2 h3 h4 h5 h6 h7 h8 h9
      obtain ⟨i1, i2, i3⟩ := ih xs2 ys2 f2 s2 (at_ + 1) hn h1 h2 (fun x hx => h3 x hx) (fun y hy => h4 y hy)
      unfold sweepAt
      by_cases he : r f2 s2 = r f s
      · rw [if_pos he]
        refine ⟨i1, fun z hz => ⟨by have := (i2 z hz).1; omega, (i2 z hz).2.imp (h5 z) (h6 z)⟩, fun row => ?_⟩
        by_cases hrow : at_ ≤ row
        · rw [(h8 row hrow).1, (h8 row hrow).2, ← i3 row, he]
        · rw [(h9 row (by omega)).1, (h9 row (by omega)).2, inB_before fun x hx => by have := (i2 x hx).1; omega]
          simp
      · rw [if_neg he]
        refine ⟨List.pairwise_cons.mpr ⟨fun z hz => by have := (i2 z hz).1; omega, i1⟩, fun z hz => ?_, fun row => ?_⟩
        · rcases List.mem_cons.mp hz with rfl | hz
          · exact ⟨hlo, h7⟩
          · exact ⟨by have := (i2 z hz).1; omega, (i2 z hz).2.imp (h5 z) (h6 z)⟩
        · by_cases hrow : at_ ≤ row
          · rw [inB_cons, if_pos hrow, (h8 row hrow).1, (h8 row hrow).2, ← i3 row]
            revert he
            cases r f2 s2 <;> cases r f s <;> cases inB (sweep r xs2 ys2 f2 s2) row <;> simp
          · rw [(h9 row (by omega)).1, (h9 row (by omega)).2, inB_cons, if_neg hrow, inB_before fun x hx => by have := (i2 x hx).1; omega]
            simp
    intro xs ys f s lo hn hx hy lx ly
    cases xs with
    | nil =>
      cases ys with
      | nil =>
        rw [sweep]
        exact ⟨.nil, fun _ z => (nomatch z), fun row => by simp [inB]⟩
      | cons y ys =>
        rw [sweep]
        have hy2 := List.pairwise_cons.mp hy
        refine step [] (y :: ys) [] ys f s f (!s) lo y (ly y (List.mem_cons_self ..)) (by simp at hn ⊢; omega) .nil hy2.2 (fun _ z => nomatch z) hy2.1 (fun _ z => z) (fun z hz => List.mem_cons_of_mem _ hz) (.inr (List.mem_cons_self ..)) (fun row h => ⟨rfl, ?_⟩) fun row h => ⟨rfl, inB_before fun z hz => ?_⟩
        · rw [inB_cons, if_pos h]; cases s <;> cases inB ys row <;> rfl
        · rcases List.mem_cons.mp hz with rfl | hz
          · exact h
          · have := hy2.1 z hz; omega
    | cons x xs =>
      have hx2 := List.pairwise_cons.mp hx
      cases ys with
      | nil =>
        rw [sweep]
        refine step (x :: xs) [] xs [] f s (!f) s lo x (lx x (List.mem_cons_self ..)) (by simp at hn ⊢; omega) hx2.2 .nil hx2.1 (fun _ z => nomatch z) (fun z hz => List.mem_cons_of_mem _ hz) (fun _ z => z) (.inl (List.mem_cons_self ..)) (fun row h => ⟨?_, rfl⟩) fun row h => ⟨inB_before fun z hz => ?_, rfl⟩
        · rw [inB_cons, if_pos h]; cases f <;> cases inB xs row <;> rfl
        · rcases List.mem_cons.mp hz with rfl | hz
          · exact h
          · have := hx2.1 z hz; omega
      | cons y ys =>
        have hy2 := List.pairwise_cons.mp hy
        have before : ∀ {l : List Int} {a b row : Int}, (∀ z ∈ l, a < z) → row < a → inB (a :: l) row = false := fun hl hr => inB_before fun z hz => by
          rcases List.mem_cons.mp hz with rfl | hz
          · exact hr
          · have := hl z hz; omega
        rw [sweep]
        by_cases hlt : x < y
        · rw [if_pos hlt]
          refine step (x :: xs) (y :: ys) xs (y :: ys) f s (!f) s lo x (lx x (List.mem_cons_self ..)) (by simp at hn ⊢; omega) hx2.2 hy hx2.1 (fun z hz => ?_) (fun z hz => List.mem_cons_of_mem _ hz) (fun _ z => z) (.inl (List.mem_cons_self ..)) (fun row h => ⟨?_, rfl⟩) fun row h => ⟨before (b := 0) hx2.1 h, before (b := 0) hy2.1 (by omega)⟩
          · rcases List.mem_cons.mp hz with rfl | hz
            · exact hlt
            · have := hy2.1 z hz; omega
          · rw [inB_cons, if_pos h]; cases f <;> cases inB xs row <;> rfl
        · rw [if_neg hlt]
          by_cases heq : x = y
          · rw [if_pos heq]
            subst heq
            refine step (x :: xs) (x :: ys) xs ys f s (!f) (!s) lo x (lx x (List.mem_cons_self ..)) (by simp at hn ⊢; omega) hx2.2 hy2.2 hx2.1 hy2.1 (fun z hz => List.mem_cons_of_mem _ hz) (fun z hz => List.mem_cons_of_mem _ hz) (.inl (List.mem_cons_self ..)) (fun row h => ⟨?_, ?_⟩) fun row h => ⟨before (b := 0) hx2.1 h, before (b := 0) hy2.1 h⟩
            · rw [inB_cons, if_pos h]; cases f <;> cases inB xs row <;> rfl
            · rw [inB_cons, if_pos h]; cases s <;> cases inB ys row <;> rfl
          · rw [if_neg heq]
            refine step (x :: xs) (y :: ys) (x :: xs) ys f s f (!s) lo y (ly y (List.mem_cons_self ..)) (by simp at hn ⊢; omega) hx hy2.2 (fun z hz => ?_) hy2.1 (fun _ z => z) (fun z hz => List.mem_cons_of_mem _ hz) (.inr (List.mem_cons_self ..)) (fun row h => ⟨rfl, ?_⟩) fun row h => ⟨before (b := 0) hx2.1 (by omega), before (b := 0) hy2.1 h⟩
            · rcases List.mem_cons.mp hz with rfl | hz
              · omega
              · have := hx2.1 z hz; omega
            · rw [inB_cons, if_pos h]; cases s <;> cases inB ys row <;> rfl
theorem sweepAt_len (r : Bool → Bool → Bool) (at_ : Int) (f s b : Bool) (l : List Int) : (sweepAt r at_ f s b l).length ≤ l.length + 1 := by
  unfold sweepAt
  split
  · omega
  · simp
theorem sweep_len (r : Bool → Bool → Bool) : ∀ (n : Nat) (xs ys : List Int) (f s : Bool), xs.length + ys.length ≤ n → (sweep r xs ys f s).length ≤ xs.length + ys.length := by
  intro n
  induction n with
  | zero =>
    intro xs ys f s hn
    cases xs with
    | cons x xs => simp at hn
    | nil =>
      cases ys with
      | cons y ys => simp at hn
      | nil => rw [sweep]; simp
  | succ n ih =>
    intro xs ys f s hn
    cases xs with
    | nil =>
      cases ys with
      | nil => rw [sweep]; simp
      | cons y ys =>
        rw [sweep]
        have := ih [] ys f (!s) (by simp at hn ⊢; omega)
        exact Nat.le_trans (sweepAt_len ..) (by simp at this ⊢; omega)
    | cons x xs =>
      cases ys with
      | nil =>
        rw [sweep]
        have := ih xs [] (!f) s (by simp at hn ⊢; omega)
        exact Nat.le_trans (sweepAt_len ..) (by simp at this ⊢; omega)
      | cons y ys =>
        rw [sweep]
        split
        · have := ih xs (y :: ys) (!f) s (by simp at hn ⊢; omega)
          exact Nat.le_trans (sweepAt_len ..) (by simp at this ⊢; omega)
        · split
          · have := ih xs ys (!f) (!s) (by simp at hn ⊢; omega)
            exact Nat.le_trans (sweepAt_len ..) (by simp at this ⊢; omega)
          · have := ih (x :: xs) ys f (!s) (by simp at hn ⊢; omega)
            exact Nat.le_trans (sweepAt_len ..) (by simp at this ⊢; omega)
end S
namespace S
open PySem PySem.Spec PyProof.Rows L2
def t_law_b1_1 (K : Frag) (E : XK) : TS :=
    tAsg (dVar 11) (gName 10)
def t_law_b1 (K : Frag) (E : XK) : TS :=
    tSeq (dIfS (dOr (dNot (dTest K (dCall (sp__law_is_number K) (EW E) (tCons (dVar 11) (tNil))))) (dCmpT oLe (dVar 11) (dVar 10))) (tRet (tC (.bl false))) (tNext))
    (stop (t_law_b1_1 K E))
def t_law_b2_1 (K : Frag) (E : XK) : TS :=
    dIfS (dCmpT (oNe K) (tCB cInt (tCons (dCall (sp__law_in K) (EW E) (tCons (dVar 9) (tCons (dVar 12) (tNil)))) (tNil))) (dVar 13)) (tRet (tC (.bl false))) (tNext)
def t_law_b2 (K : Frag) (E : XK) : TS :=
    tSeq (tAsg (tOp (oIx K) (dVar 6) (tOp (oAdd K) (tOp oMul (tC (.int 2)) (tCB cInt (tCons (dCall (sp__law_in K) (EW E) (tCons (dVar 3) (tCons (dVar 12) (tNil)))) (tNil)))) (tCB cInt (tCons (dCall (sp__law_in K) (EW E) (tCons (dVar 4) (tCons (dVar 12) (tNil)))) (tNil))))) (gName 13))
    (stop (t_law_b2_1 K E))
def t_law_16 (K : Frag) (E : XK) : TS :=
    tRet (tC (.bl true))
def t_law_15 (K : Frag) (E : XK) : TS :=
    tSeq (dFor (iSeq K (tOp (oAdd K) (tOp (oAdd K) (tOp (oAdd K) (dLst (tCons (tC (.int 0)) (tNil))) (dVar 3)) (dVar 4)) (tCB (cList K) (tCons (dVar 9) (tNil))))) (gName 12) (t_law_b2 K E))
    (stop (t_law_16 K E))
def t_law_14 (K : Frag) (E : XK) : TS :=
    tSeq (dFor (iSeq K (dVar 9)) (gName 11) (t_law_b1 K E))
    (stop (t_law_15 K E))
def t_law_13 (K : Frag) (E : XK) : TS :=
    tSeq (tAsg (tUn uNeg (tC (.int 1))) (gName 10))
    (stop (t_law_14 K E))
def t_law_12 (K : Frag) (E : XK) : TS :=
    tSeq (dIfS (dOr (dCmpT (oNe K) (dVar 7) (dVar 3)) (dOr (dCmpT (oNe K) (dVar 8) (dVar 4)) (dNot (dTest K (tCB (cIsi K) (tCons (dVar 9) (tCons (tC (.ty "tuple")) (tNil)))))))) (tRet (tC (.bl false))) (tNext))
    (stop (t_law_13 K E))
def t_law_11 (K : Frag) (E : XK) : TS :=
    tSeq (dIfS (dCmpT (oEq K) (dCall (sp__law_draw K) (EW E) (tCons (dVar 0) (tCons (dVar 1) (tCons (tC (.int 2)) (tNil))))) (tC (.int 1))) (tAsg (dCall (sp_swept K) (EW E) (tCons (tCB (cTuple K) (tCons (dVar 3) (tNil))) (tCons (tCB (cTuple K) (tCons (dVar 4) (tNil))) (tCons (dVar 6) (tNil))))) (gName 9)) (tAsg (dCall (sp_swept K) (EW E) (tCons (dVar 7) (tCons (dVar 8) (tCons (dVar 6) (tNil))))) (gName 9)))
    (stop (t_law_12 K E))
def t_law_10 (K : Frag) (E : XK) : TS :=
    tSeq (tAsg (tCB (cList K) (tCons (dVar 4) (tNil))) (gName 8))
    (stop (t_law_11 K E))
def t_law_9 (K : Frag) (E : XK) : TS :=
    tSeq (tAsg (tCB (cList K) (tCons (dVar 3) (tNil))) (gName 7))
    (stop (t_law_10 K E))
def t_law_8 (K : Frag) (E : XK) : TS :=
    tSeq (tAsg (dTup K (tCons (tC (.int 0)) (tCons (dCall (sp__law_draw K) (EW E) (tCons (dVar 0) (tCons (dVar 1) (tCons (tC (.int 2)) (tNil))))) (tCons (dCall (sp__law_draw K) (EW E) (tCons (dVar 0) (tCons (dVar 1) (tCons (tC (.int 2)) (tNil))))) (tCons (dCall (sp__law_draw K) (EW E) (tCons (dVar 0) (tCons (dVar 1) (tCons (tC (.int 2)) (tNil))))) (tNil)))))) (gName 6))
    (stop (t_law_9 K E))
def t_law_7 (K : Frag) (E : XK) : TS :=
    tSeq (dIfS (dCmpT (oEq K) (dVar 5) (tC (.int 3))) (tAsg (dLc (iSeq K (dVar 3)) (gName 11) (dCmpT (oEq K) (tOp oMod (tCB cInt (tCons (dVar 11) (tNil))) (tC (.int 3))) (tC (.int 0))) (dVar 11) [11]) (gName 4)) (tNext))
    (stop (t_law_8 K E))
def t_law_6 (K : Frag) (E : XK) : TS :=
    tSeq (dIfS (dCmpT (oEq K) (dVar 5) (tC (.int 2))) (tAsg (dLc (iSeq K (dVar 3)) (gName 11) (dCmpT oLt (tOp (oAdd K) (dVar 11) (tC (.int 1))) (dVar 2)) (tOp (oAdd K) (dVar 11) (tC (.int 1))) [11]) (gName 4)) (tNext))
    (stop (t_law_7 K E))
def t_law_5 (K : Frag) (E : XK) : TS :=
    tSeq (dIfS (dCmpT (oEq K) (dVar 5) (tC (.int 1))) (tAsg (tSl (oSl K) (dVar 3) (dPart (dCall (sp__law_draw K) (EW E) (tCons (dVar 0) (tCons (dVar 1) (tCons (tC (.int 3)) (tNil)))))) (tNoPart)) (gName 4)) (tNext))
    (stop (t_law_6 K E))
def t_law_4 (K : Frag) (E : XK) : TS :=
    tSeq (tAsg (dCall (sp__law_draw K) (EW E) (tCons (dVar 0) (tCons (dVar 1) (tCons (tC (.int 4)) (tNil))))) (gName 5))
    (stop (t_law_5 K E))
def t_law_3 (K : Frag) (E : XK) : TS :=
    tSeq (tAsg (dCall (sp__law_ends K) (EW E) (tCons (dVar 0) (tCons (dVar 1) (tCons (dVar 2) (tCons (tC (.int 30)) (tNil)))))) (gName 4))
    (stop (t_law_4 K E))
def t_law_2 (K : Frag) (E : XK) : TS :=
    tSeq (tAsg (dCall (sp__law_ends K) (EW E) (tCons (dVar 0) (tCons (dVar 1) (tCons (dVar 2) (tCons (tC (.int 30)) (tNil)))))) (gName 3))
    (stop (t_law_3 K E))
def t_law_1 (K : Frag) (E : XK) : TS :=
    tSeq (tAsg (dCall (sp__law_size K) (EW E) (tCons (dVar 0) (tCons (dVar 1) (tNil)))) (gName 2))
    (stop (t_law_2 K E))
def t_law (K : Frag) (E : XK) : TS :=
    tSeq (tAsg (dLst (tCons (tC (.int 0)) (tCons (tC (.int 0)) (tCons (tC (.int 0)) (tCons (tC (.int 0)) (tNil)))))) (gName 1))
    (stop (t_law_1 K E))
end S
-- fn: law
-- law: k02
-- deps: D0 D1 _law_draw _law_wide _law_size _law_ends _law_in _law_is_number swept
namespace S
open PySem PySem.Spec PyProof.Rows L2
theorem rule_of {d1 d2 d3 : Int} (h1 : 0 ≤ d1 ∧ d1 < 2) (h2 : 0 ≤ d2 ∧ d2 < 2) (h3 : 0 ≤ d3 ∧ d3 < 2) : ∃ r : Bool → Bool → Bool, r false false = false ∧ ruleV r = [.int 0, .int d1, .int d2, .int d3] := by
  have e : ∀ d : Int, 0 ≤ d ∧ d < 2 → b2i (decide (d = 1)) = d := fun d h => by
    by_cases hd : d = 1
    · rw [decide_eq_true hd, hd]; rfl
    · rw [decide_eq_false hd]; show (0 : Int) = d; omega
  refine ⟨fun f s => match f, s with | false, false => false | false, true => decide (d1 = 1) | true, false => decide (d2 = 1) | true, true => decide (d3 = 1), rfl, ?_⟩
  show [V.int 0, .int (b2i (decide (d1 = 1))), .int (b2i (decide (d2 = 1))), .int (b2i (decide (d3 = 1)))] = _
  rw [e d1 h1, e d2 h2, e d3 h3]
theorem pure_law {K : Frag} (vs : List V) (H : Hp) (Q : VK) (E : XK) (h : sp_law K vs H Q E) : t_law K E { nx := fun _ H' => Q .non H', rt := Q } (start ["_law_script", "_law_state", "_law_size_here", "_law_one", "_law_other", "_law_kind", "_law_rule", "_law_first", "_law_second", "_law_told", "_law_last", "_law_end", "_law_row", "_law_due"] vs) H := by
  obtain ⟨a, ns0, rfl, ha, q⟩ := h
  walk_at "gx"
  refine ⟨fun st hst => ?_⟩
  have c0 : Ctx K (upd H st (.lst [.int 0, .int 0, .int 0, .int 0])) a st := ctx0 ha hst _ ⟨_, _, _, _, rfl, by decide, by decide, .inl rfl⟩
  walk_at "gx"
  refine ⟨a, st, rfl, c0, fun size H1 s0 s1 c1 e1 => ?_⟩
  walk_at "gx"
  refine ⟨a, st, size, 30, rfl, c1, s0, s1, by decide, by decide, fun p xs H2 np hp hE hlen c2 e2 => ?_⟩
  have npst := ctx_ne c1 np
  walk_at "gx"
  refine ⟨a, st, size, 30, rfl, c2, s0, s1, by decide, by decide, fun q0 ys0 H3 nq hq0 hE0 hlen0 c3 e3 => ?_⟩
  have nqst := ctx_ne c2 nq
  have hp3 := e3 _ _ hp npst
  walk_at "gx"
  refine ⟨a, st, _, rfl, c3, by decide, fun kd H4 k0 k1 c4 e4 => ?_⟩
  have hp4 := e4 _ _ hp3 npst
  have hq4 := e4 _ _ hq0 nqst
  -- behind the three ifs
  have tail : ∀ (q1 : Addr) (ys : List Int) (H5 : Hp), H5 p = some (.lst (xs.map V.int)) → H5 q1 = some (.lst (ys.map V.int)) → q1 ≠ st → Ends size ys → ys.length ≤ 30 → Ctx K H5 a st →
      t_law_8 K E { nx := fun _ H' => Q .non H', rt := Q } [some (.ref a), some (.ref st), some (.int size), some (.ref p), some (.ref q1), some (.int kd), none, none, none, none, none, none, none, none] H5 := by
    intro q1 ys H5 hp5 hq5 nq5 hE5 hl5 c5
    refine ⟨a, st, _, rfl, c5, by decide, fun d1 H6 d10 d11 c6 e6 => ?_⟩
    refine ⟨a, st, _, rfl, c6, by decide, fun d2 H7 d20 d21 c7 e7 => ?_⟩
    refine ⟨a, st, _, rfl, c7, by decide, fun d3 H8 d30 d31 c8 e8 => ?_⟩
    have e58 := e6.trans (e7.trans e8)
    have hp8 := e58 _ _ hp5 npst
    have hq8 := e58 _ _ hq5 nq5
    obtain ⟨r, hr0, hr⟩ := rule_of ⟨d10, d11⟩ ⟨d20, d21⟩ ⟨d30, d31⟩
    walk_at "gx"
    refine ⟨fun t H9 e9 ht => ?_⟩
    rw [← hr] at ht
    have hp9 := e9 _ _ hp8
    have hq9 := e9 _ _ hq8
    have c9 := c8.same e9
    walk_at "gx"
    refine ⟨fun f1 nf1 => ?_⟩
    have e10 := same_new (o := .lst (xs.map V.int)) nf1
    have hq10 := e10 _ _ hq9
    walk_at "gx"
    refine ⟨fun f2 nf2 => ?_⟩
    have nf12 : f1 ≠ f2 := ne_of_none upd_same nf2
    have e11 := e10.trans (same_new (o := .lst (ys.map V.int)) nf2)
    have ht11 := Same.tup e11 ht
    refine ⟨a, st, _, rfl, c9.same e11, by decide, fun w H12 w0 w1 c12 e12 => ?_⟩
    have hp12 := e12 _ _ (e11 _ _ hp9) npst
    have hq12 := e12 _ _ (e11 _ _ hq9) nq5
    obtain ⟨ls, hls⟩ := ctx_st c9
    have nf1st : f1 ≠ st := (ne_of_none hls nf1).symm
    have nf2st : f2 ≠ st := (ne_of_none (e10 _ _ hls) nf2).symm
    have hf1 : H12 f1 = some (.lst (xs.map V.int)) := e12 _ _ (up_of nf12 upd_same) nf1st
    have hf2 : H12 f2 = some (.lst (ys.map V.int)) := e12 _ _ upd_same nf2st
    have ht12 := e12.tup ht11 (e11 _ _ hls)
    obtain ⟨L1, L2', L3⟩ := sweep_law r _ xs ys false false 0 (Nat.le_refl _) hE.1 hE5.1 (fun x hx => (hE.2 x hx).1) (fun x hx => (hE5.2 x hx).1)
    have fin : ∀ (u : Addr) (H13 : Hp), Same H12 H13 → SqT K H13 u ((sweep r xs ys false false).map V.int) →
        t_law_12 K E { nx := fun _ H' => Q .non H', rt := Q } [some (.ref a), some (.ref st), some (.int size), some (.ref p), some (.ref q1), some (.int kd), some (.ref t), some (.ref f1), some (.ref f2), some (.ref u), none, none, none, none] H13 := by
      intro u H13 e13 hu
      have hp13 := e13 _ _ hp12
      have hq13 := e13 _ _ hq12
      refine eqd_ll (SqL.of (e13 _ _ hf1)) (SqL.of hp13) ?_
      refine ifnf rfl ?_
      refine eqd_ll (SqL.of (e13 _ _ hf2)) (SqL.of hq13) ?_
      refine ifnf rfl ?_
      refine isi_tup hu ?_
      walk_at "gx"
      refine for_seq (fun i σ H5 => H5 = H13 ∧ ∃ (last : Int) (k : Option V), σ = [some (.ref a), some (.ref st), some (.int size), some (.ref p), some (.ref q1), some (.int kd), some (.ref t), some (.ref f1), some (.ref f2), some (.ref u), some (.int last), k, none, none] ∧ (last = -1 ∨ ∃ j, j < i ∧ (sweep r xs ys false false)[j]? = some last))
        (.inr hu) ⟨rfl, -1, none, rfl, .inl rfl⟩ (fun i σ H5 _ z => by rw [z.1]; exact Same.stay (Same.refl _)) ?_ ?_
      · rintro i x σ H5 hx ⟨rfl, last, k, rfl, hlast⟩
        obtain ⟨y, hy, rfl⟩ := map_get hx
        have hyr := (L2' y (List.mem_of_getElem? hy)).1
        have hgt : last < y := by
          rcases hlast with e | ⟨j, hj, hlj⟩
          · omega
          · exact pw_lt L1 hj hlj hy
        walk_at "gx"
        refine ⟨y, rfl, ?_⟩
        walk_at "gx"
        refine iff' (by omega) ?_
        walk_at "gx"
        exact ⟨rfl, y, _, rfl, .inr ⟨i, Nat.lt_succ_self _, hy⟩⟩
      · rintro σ H5 ⟨rfl, last, k, rfl, hlast⟩
        have hlen : (sweep r xs ys false false).length ≤ xs.length + ys.length := sweep_len r _ xs ys false false (Nat.le_refl _)
        walk_at "gx"
        refine ⟨fun p1 np1 => ?_⟩
        refine Cat.l upd_same (up_of (ne_of_none hp13 np1) hp13) (by simp only [sizeLine_eq, List.length_cons, List.length_nil, List.length_map]; omega) fun p2 np2 => ?_
        have e6 := (same_new (o := .lst [.int 0]) np1).trans (same_new (o := .lst ([.int 0] ++ xs.map V.int)) np2)
        refine Cat.l upd_same (e6 _ _ hq13) (by simp only [sizeLine_eq, List.length_cons, List.length_nil, List.length_map, List.length_append]; omega) fun p3 np3 => ?_
        have e7 := e6.trans (same_new (o := .lst ([.int 0] ++ xs.map V.int ++ ys.map V.int)) np3)
        have hu7 := Same.tup e7 hu
        walk_at "gx"
        refine ⟨fun p4 np4 => ?_⟩
        have n34 : p3 ≠ p4 := ne_of_none upd_same np4
        refine Cat.l (up_of n34 upd_same) upd_same (by simp only [sizeLine_eq, List.length_cons, List.length_nil, List.length_map, List.length_append]; omega) fun p5 np5 => ?_
        have eall : [V.int 0] ++ xs.map V.int ++ ys.map V.int ++ (sweep r xs ys false false).map V.int = (0 :: (xs ++ (ys ++ sweep r xs ys false false))).map V.int := by simp
        rw [eall]
        have e8 := e7.trans ((same_new (o := .lst ((sweep r xs ys false false).map V.int)) np4).trans (same_new (o := .lst ((0 :: (xs ++ (ys ++ sweep r xs ys false false))).map V.int)) np5))
        refine for_seq (xs := (0 :: (xs ++ (ys ++ sweep r xs ys false false))).map V.int) (fun i σ H6 => H6 = _ ∧ ∃ (k1 k2 : Option V), σ = [some (.ref a), some (.ref st), some (.int size), some (.ref p), some (.ref q1), some (.int kd), some (.ref t), some (.ref f1), some (.ref f2), some (.ref u), some (.int last), k, k1, k2])
          (.inl (SqL.of upd_same)) ⟨rfl, none, none, rfl⟩ (fun i σ H6 _ z => by rw [z.1]; exact Same.stay (Same.refl _)) ?_ ?_
        · rintro i x σ H6 hx ⟨rfl, k1, k2, rfl⟩
          obtain ⟨y, hy, rfl⟩ := map_get hx
          have hr6 := rule_at r (inB xs y) (inB ys y)
          have ht14 := Same.tup e8 (Same.tup e13 ht12)
          refine ⟨p, xs, y, rfl, .inl (SqL.of (e8 _ _ hp13)), ?_⟩
          walk_at "gx"
          refine ⟨q1, ys, y, rfl, .inl (SqL.of (e8 _ _ hq13)), ?_⟩
          walk_at "gx"
          refine ⟨u, _, y, rfl, .inr (Same.tup e8 hu), ?_⟩
          have h3 := L3 y
          rw [hr0] at h3
          simp only [Bool.false_xor] at h3
          rw [h3]
          refine ifnf rfl ?_
          exact ⟨rfl, _, _, rfl⟩
        · rintro σ H6 ⟨rfl, k1, k2, rfl⟩
          walk_at "gx"
          exact q _
    walk_at "gx"
    refine ifd (fun hw => ?_) (fun hw => ?_)
    · walk_at "gx"
      refine ⟨fun t1 H13 e13 ht1 => ?_⟩
      have hq13 := e13 _ _ hq12
      walk_at "gx"
      refine ⟨fun t2 H14 e14 ht2 => ?_⟩
      refine ⟨t1, t2, t, xs, ys, r, rfl, .inr (Same.tup e14 ht1), .inr ht2, Same.tup (e13.trans e14) ht12, hr0, by omega, by omega, fun u H15 e15 hu => ?_⟩
      exact ⟨fin u H15 ((e13.trans e14).trans e15) hu⟩
    · walk_at "gx"
      refine ⟨f1, f2, t, xs, ys, r, rfl, .inl (SqL.of hf1), .inl (SqL.of hf2), ht12, hr0, by omega, by omega, fun u H15 e15 hu => ?_⟩
      exact ⟨fin u H15 e15 hu⟩
  walk_at "gx"
  refine ifd (fun hk => ?_) (fun hk => ?_)
  · refine ⟨a, st, _, rfl, c4, by decide, fun d H5 d0 d1 c5 e5 => ?_⟩
    have hp5 := e5 _ _ hp4 npst
    refine Cut.l (SqL.of hp5) fun q1 nq1 => ?_
    rw [cut_from d0]
    have c6 := c5.mut (p := q1) (o := .lst ((xs.drop d.toNat).map V.int)) c5 nq1
    walk_at "gx"
    refine iff' (by omega) ?_
    walk_at "gx"
    refine iff' (by omega) ?_
    exact ⟨tail q1 _ _ (up_of (ne_of_none hp5 nq1) hp5) upd_same (ctx_ne c5 nq1) (hE.drop _) (by rw [List.length_drop]; omega) c6⟩
  walk_at "gx"
  refine ifd (fun hk => ?_) (fun hk => ?_)
  · refine lc_map (fun v => match v with | .int i => .int (i + 1) | v => v) (fun v => match v with | .int i => decide (i + 1 < size) | _ => false) (.inl (SqL.of hp4)) (by rw [List.length_map, sizeLine_eq]; omega) ?_ fun D H5 nD hD e5 => ?_
    · intro x H A B hm e hA hB
      obtain ⟨i, hi, rfl⟩ := List.mem_map.mp hm
      refine ⟨rfl, ?_⟩
      refine ifc (fun h => ?_) (fun h => ?_)
      · exact hA _ (Same.refl _) (decide_eq_true h)
      · exact hB _ (Same.refl _) (decide_eq_false h)
    · rw [map_filter_ints _ _ (fun i => decide (i + 1 < size)) (fun i => i + 1) (fun _ => rfl) (fun _ => rfl)] at hD
      walk_at "gx"
      refine iff' (by omega) ?_
      exact ⟨tail D _ _ (e5 _ _ hp4) hD (ctx_ne c4 nD) hE.up (by rw [List.length_map]; exact Nat.le_trans (List.length_filter_le _ _) (by omega)) (c4.same e5)⟩
  walk_at "gx"
  refine ifd (fun hk => ?_) (fun hk => ?_)
  · refine lc_map (fun v => v) (fun v => match v with | .int i => decide (i % 3 = 0) | _ => false) (.inl (SqL.of hp4)) (by rw [List.length_map, sizeLine_eq]; omega) ?_ fun D H5 nD hD e5 => ?_
    · intro x H A B hm e hA hB
      obtain ⟨i, hi, rfl⟩ := List.mem_map.mp hm
      refine ⟨rfl, ?_⟩
      walk_at "gx"
      refine ifc (fun h => ?_) (fun h => ?_)
      · exact hA _ (Same.refl _) (decide_eq_true h)
      · exact hB _ (Same.refl _) (decide_eq_false h)
    · rw [map_filter_ints _ _ (fun i => decide (i % 3 = 0)) (fun i => i) (fun _ => rfl) (fun _ => rfl), List.map_id'] at hD
      exact ⟨tail D _ _ (e5 _ _ hp4) hD (ctx_ne c4 nD) (hE.filter _) (Nat.le_trans (List.length_filter_le _ _) (by omega)) (c4.same e5)⟩
  · exact ⟨tail q0 ys0 H4 hp4 hq4 nqst hE0 (by omega) c4⟩
end S
namespace S
open PySem PySem.Spec PyProof.Rows L2
def top (i : Nat) : Stmt := PySem.Challenge.pw_slicedcolumns_k02_swept.main.body.getD i (.Pass ⟨0, 0, 0, 0⟩)
abbrev s__law_draw : Stmt := top 4
abbrev s__law_wide : Stmt := top 5
abbrev s__law_size : Stmt := top 6
abbrev s__law_ends : Stmt := top 7
abbrev s_next_end : Stmt := top 1
abbrev s_swept : Stmt := top 2
abbrev s__law_is_number : Stmt := top 9
abbrev s__law_in : Stmt := top 8
abbrev s_law : Stmt := top 10
theorem sc__law_draw : FnScope ["_law_script", "_law_state", "_law_base", "_law_here", "_law_number", "_law_digit", "_law_mixed"] ["_law_script", "_law_state", "_law_base"] (defScope s__law_draw) := ⟨rfl, rfl, rfl, by decide +kernel, rfl, by decide +kernel, by decide +kernel⟩
theorem sc__law_wide : FnScope ["_law_script", "_law_state", "_law_limit", "_law_number", "_law_k"] ["_law_script", "_law_state", "_law_limit"] (defScope s__law_wide) := ⟨rfl, rfl, rfl, by decide +kernel, rfl, by decide +kernel, by decide +kernel⟩
theorem sc__law_size : FnScope ["_law_script", "_law_state", "_law_kind"] ["_law_script", "_law_state"] (defScope s__law_size) := ⟨rfl, rfl, rfl, by decide +kernel, rfl, by decide +kernel, by decide +kernel⟩
theorem sc__law_ends : FnScope ["_law_script", "_law_state", "_law_size_here", "_law_most", "_law_ends_here", "_law_at", "_law_k", "_law_kind"] ["_law_script", "_law_state", "_law_size_here", "_law_most"] (defScope s__law_ends) := ⟨rfl, rfl, rfl, by decide +kernel, rfl, by decide +kernel, by decide +kernel⟩
theorem sc_next_end : FnScope ["one", "i", "other", "j"] ["one", "i", "other", "j"] (defScope s_next_end) := ⟨rfl, rfl, rfl, by decide +kernel, rfl, by decide +kernel, by decide +kernel⟩
theorem sc_swept : FnScope ["one", "other", "rule", "ends", "i", "j", "first", "second", "bit", "at"] ["one", "other", "rule"] (defScope s_swept) := ⟨rfl, rfl, rfl, by decide +kernel, rfl, by decide +kernel, by decide +kernel⟩
theorem sc__law_is_number : FnScope ["_law_x"] ["_law_x"] (defScope s__law_is_number) := ⟨rfl, rfl, rfl, by decide +kernel, rfl, by decide +kernel, by decide +kernel⟩
theorem sc__law_in : FnScope ["_law_ends_here", "_law_row", "_law_inside", "_law_end"] ["_law_ends_here", "_law_row"] (defScope s__law_in) := ⟨rfl, rfl, rfl, by decide +kernel, rfl, by decide +kernel, by decide +kernel⟩
theorem sc_law : FnScope ["_law_script", "_law_state", "_law_size_here", "_law_one", "_law_other", "_law_kind", "_law_rule", "_law_first", "_law_second", "_law_told", "_law_last", "_law_end", "_law_row", "_law_due"] ["_law_script"] (defScope s_law) := ⟨rfl, rfl, rfl, by decide +kernel, rfl, by decide +kernel, by decide +kernel⟩
structure T0 (K : Frag) (mg : Str → Option Value) : Prop where
  n_abs : mg "abs" = none
  n_bool : mg "bool" = none
  n_int : mg "int" = none
  n_isinstance : mg "isinstance" = none
  n_len : mg "len" = none
  n_list : mg "list" = none
  n_range : mg "range" = none
  n_tuple : mg "tuple" = none
  g__law_draw : mg "_law_draw" = some (.ref (He.ga K "_law_draw"))
  g__law_ends : mg "_law_ends" = some (.ref (He.ga K "_law_ends"))
  g__law_in : mg "_law_in" = some (.ref (He.ga K "_law_in"))
  g__law_is_number : mg "_law_is_number" = some (.ref (He.ga K "_law_is_number"))
  g__law_size : mg "_law_size" = some (.ref (He.ga K "_law_size"))
  g__law_wide : mg "_law_wide" = some (.ref (He.ga K "_law_wide"))
  g_law : mg "law" = some (.ref (He.ga K "law"))
  g_next_end : mg "next_end" = some (.ref (He.ga K "next_end"))
  g_swept : mg "swept" = some (.ref (He.ga K "swept"))
  F__law_draw : ∃ fd, FunD K "_law_draw" "_law_draw" (defArgs s__law_draw) (defBody s__law_draw) (defScope s__law_draw) [] [] (He.fAd K ("_law_draw", none)) fd
  k__law_draw : PySem.W.keepIn K (.ref (He.fAd K ("_law_draw", none))) = true
  F__law_wide : ∃ fd, FunD K "_law_wide" "_law_wide" (defArgs s__law_wide) (defBody s__law_wide) (defScope s__law_wide) [] [] (He.fAd K ("_law_wide", none)) fd
  k__law_wide : PySem.W.keepIn K (.ref (He.fAd K ("_law_wide", none))) = true
  F__law_size : ∃ fd, FunD K "_law_size" "_law_size" (defArgs s__law_size) (defBody s__law_size) (defScope s__law_size) [] [] (He.fAd K ("_law_size", none)) fd
  k__law_size : PySem.W.keepIn K (.ref (He.fAd K ("_law_size", none))) = true
  F__law_ends : ∃ fd, FunD K "_law_ends" "_law_ends" (defArgs s__law_ends) (defBody s__law_ends) (defScope s__law_ends) [] [] (He.fAd K ("_law_ends", none)) fd
  k__law_ends : PySem.W.keepIn K (.ref (He.fAd K ("_law_ends", none))) = true
  F_next_end : ∃ fd, FunD K "next_end" "next_end" (defArgs s_next_end) (defBody s_next_end) (defScope s_next_end) [] [] (He.fAd K ("next_end", none)) fd
  k_next_end : PySem.W.keepIn K (.ref (He.fAd K ("next_end", none))) = true
  F_swept : ∃ fd, FunD K "swept" "swept" (defArgs s_swept) (defBody s_swept) (defScope s_swept) [] [] (He.fAd K ("swept", none)) fd
  k_swept : PySem.W.keepIn K (.ref (He.fAd K ("swept", none))) = true
  F__law_is_number : ∃ fd, FunD K "_law_is_number" "_law_is_number" (defArgs s__law_is_number) (defBody s__law_is_number) (defScope s__law_is_number) [] [] (He.fAd K ("_law_is_number", none)) fd
  k__law_is_number : PySem.W.keepIn K (.ref (He.fAd K ("_law_is_number", none))) = true
  F__law_in : ∃ fd, FunD K "_law_in" "_law_in" (defArgs s__law_in) (defBody s__law_in) (defScope s__law_in) [] [] (He.fAd K ("_law_in", none)) fd
  k__law_in : PySem.W.keepIn K (.ref (He.fAd K ("_law_in", none))) = true
  F_law : ∃ fd, FunD K "law" "law" (defArgs s_law) (defBody s_law) (defScope s_law) [] [] (He.fAd K ("law", none)) fd
  k_law : PySem.W.keepIn K (.ref (He.fAd K ("law", none))) = true
section
variable {P : Program} {w : World} {K : Frag} {mg : Str → Option Value} {base : Heap}
theorem ok__law_draw (T : T0 K mg) : FR P w K mg base 1 (He.fAd K ("_law_draw", none)) (sp__law_draw K) := by
  obtain ⟨fd, F⟩ := T.F__law_draw
  refine mk_fn F sc__law_draw (fun vs H Q E h => by
    revert h; intro h; (repeat (first | (obtain ⟨rfl, _⟩ := h; exact rfl) | obtain ⟨_, h⟩ := h))) (fun _ _ _ _ _ _ us hl => match us, hl with | [_, _, _], _ => rfl) (t := t__law_draw K) (fun cdv A outer s H E hr => ?_) (fun vs H Q E h => pure__law_draw vs H Q E h)
  exact pss_cons (ps_if (pt_cmp (o_eq hr.units) (pe_ix ix_any (pv 1) (pe_int) (fun _ _ => rfl)) (pe_int) (nomark _)) (pss_cons (ps_set (i := 3) sc__law_draw.nd rfl (Or.inl rfl) (pe_ix ix_any (pv 1) (pe_int) (fun _ _ => rfl)))
    (pss_cons (ps_asg (pe_op o_add (pv 3) (pe_int)) (pg_sub (pv 1) (pe_int) s_list))
    (pss_cons (ps_if (pt_cmp o_ge (pv 3) (pe_cb c_len T.n_len (by decide +kernel) (pa_cons (pv 0) (pa_nil))) (nomark _)) (pss_one (ps_ret (pe_int))) (pss_nil))
    (pss_cons (ps_asg (pe_cb c_abs T.n_abs (by decide +kernel) (pa_cons (pe_ix ix_any (pv 0) (pv 3) (fun _ _ => rfl)) (pa_nil))) (pg_sub (pv 1) (pe_int) s_list))
    (pss_cons (ps_asg (pe_ct c_int T.n_int (by decide +kernel) (pa_cons (pe_cmp o_lt (pe_ix ix_any (pv 0) (pv 3) (fun _ _ => rfl)) (pe_int) (nomark _)) (pa_nil))) (pg_sub (pv 1) (pe_int) s_list))
    (pss_cons (ps_asg (pe_int) (pg_sub (pv 1) (pe_int) s_list))
    (pss_one (ps_if (pt_cmp o_ge (pe_ix ix_any (pv 1) (pe_int) (fun _ _ => rfl)) (pe_op o_pow (pe_int) (pe_int)) (nomark _)) (pss_cons (ps_asg (pe_int) (pg_sub (pv 1) (pe_int) s_list))
    (pss_one (ps_asg (pe_int) (pg_sub (pv 1) (pe_int) s_list)))) (pss_nil))))))))) (pss_nil))
    (pss_stop (pss_cons (ps_asg (pe_op o_sub (pe_ix ix_any (pv 1) (pe_int) (fun _ _ => rfl)) (pe_int)) (pg_sub (pv 1) (pe_int) s_list))
    (pss_stop (pss_cons (ps_set (i := 4) sc__law_draw.nd rfl (Or.inl rfl) (pe_ct c_int T.n_int (by decide +kernel) (pa_cons (pe_ix ix_any (pv 1) (pe_int) (fun _ _ => rfl)) (pa_nil))))
    (pss_stop (pss_cons (ps_if (pt_cmp (o_eq hr.units) (pe_ix ix_any (pv 1) (pe_int) (fun _ _ => rfl)) (pe_int) (nomark _)) (pss_cons (ps_asg (pe_op o_fdiv (pv 4) (pe_int)) (pg_sub (pv 1) (pe_int) s_list))
    (pss_cons (ps_if (pt_cmp (o_eq hr.units) (pe_ix ix_any (pv 1) (pe_int) (fun _ _ => rfl)) (pe_int) (nomark _)) (pss_one (ps_asg (pe_int) (pg_sub (pv 1) (pe_int) s_list))) (pss_nil))
    (pss_cons (ps_set (i := 5) sc__law_draw.nd rfl (Or.inl rfl) (pe_op o_mod (pe_ct c_int T.n_int (by decide +kernel) (pa_cons (pv 4) (pa_nil))) (pe_int)))
    (pss_one (ps_ret (pe_op o_mod (pe_ct c_int T.n_int (by decide +kernel) (pa_cons (pv 5) (pa_nil))) (pv 2))))))) (pss_nil))
    (pss_stop (pss_cons (ps_set (i := 6) sc__law_draw.nd rfl (Or.inl rfl) (pe_op o_mod (pe_ct c_int T.n_int (by decide +kernel) (pa_cons (pe_op o_add (pe_op o_mul (pv 4) (pe_op o_add (pe_op o_add (pe_int) (pe_op o_mul (pe_int) (pe_ix ix_any (pv 1) (pe_int) (fun _ _ => rfl)))) (pe_op o_mul (pe_int) (pe_ix ix_any (pv 1) (pe_int) (fun _ _ => rfl))))) (pe_op o_mul (pe_int) (pe_ix ix_any (pv 1) (pe_int) (fun _ _ => rfl)))) (pa_nil))) (pe_int)))
    (pss_stop (pss_cons (ps_set (i := 6) sc__law_draw.nd rfl (Or.inl rfl) (pe_op o_mod (pe_ct c_int T.n_int (by decide +kernel) (pa_cons (pe_op o_add (pe_op o_mul (pv 6) (pv 6)) (pv 4)) (pa_nil))) (pe_int)))
    (pss_stop (pss_cons (ps_set (i := 6) sc__law_draw.nd rfl (Or.inl rfl) (pe_op o_mod (pe_ct c_int T.n_int (by decide +kernel) (pa_cons (pe_op o_mul (pv 6) (pv 6)) (pa_nil))) (pe_int)))
    (pss_stop (pss_one (ps_ret (pe_op o_mod (pe_ct c_int T.n_int (by decide +kernel) (pa_cons (pv 6) (pa_nil))) (pv 2)))))))))))))))))
theorem ok__law_wide (T : T0 K mg) : FR P w K mg base 2 (He.fAd K ("_law_wide", none)) (sp__law_wide K) := by
  obtain ⟨fd, F⟩ := T.F__law_wide
  have G__law_draw := ok__law_draw (P := P) (w := w) (base := base) T
  refine mk_fn F sc__law_wide (fun vs H Q E h => by
    revert h; intro h; (repeat (first | (obtain ⟨rfl, _⟩ := h; exact rfl) | obtain ⟨_, h⟩ := h))) (fun _ _ _ _ _ _ us hl => match us, hl with | [_, _, _], _ => rfl) (t := t__law_wide K) (fun cdv A outer s H E hr => ?_) (fun vs H Q E h => pure__law_wide vs H Q E h)
  exact pss_cons (ps_set (i := 3) sc__law_wide.nd rfl (Or.inl rfl) (pe_int))
    (pss_stop (pss_cons (ps_for ownD rfl (pi_rng (by rfl) T.n_range (pa_cons (pe_int) (pa_nil))) (pg_name (i := 4) sc__law_wide.nd rfl (Or.inl rfl)) (pss_one (ps_set (i := 3) sc__law_wide.nd rfl (Or.inl rfl) (pe_op o_add (pe_op o_mul (pv 3) (pe_int)) (pe_call (G__law_draw) (hr.mono (by decide)) T.g__law_draw T.k__law_draw passD (pa_cons (pv 0) (pa_cons (pv 1) (pa_cons (pe_int) (pa_nil)))))))))
    (pss_stop (pss_one (ps_ret (pe_op o_mod (pe_ct c_int T.n_int (by decide +kernel) (pa_cons (pv 3) (pa_nil))) (pv 2)))))))
theorem ok__law_size (T : T0 K mg) : FR P w K mg base 3 (He.fAd K ("_law_size", none)) (sp__law_size K) := by
  obtain ⟨fd, F⟩ := T.F__law_size
  have G__law_draw := ok__law_draw (P := P) (w := w) (base := base) T
  have G__law_wide := ok__law_wide (P := P) (w := w) (base := base) T
  refine mk_fn F sc__law_size (fun vs H Q E h => by
    revert h; intro h; (repeat (first | (obtain ⟨rfl, _⟩ := h; exact rfl) | obtain ⟨_, h⟩ := h))) (fun _ _ _ _ _ _ us hl => match us, hl with | [_, _], _ => rfl) (t := t__law_size K) (fun cdv A outer s H E hr => ?_) (fun vs H Q E h => pure__law_size vs H Q E h)
  exact pss_cons (ps_set (i := 2) sc__law_size.nd rfl (Or.inl rfl) (pe_call (G__law_draw) (hr.mono (by decide)) T.g__law_draw T.k__law_draw passD (pa_cons (pv 0) (pa_cons (pv 1) (pa_cons (pe_int) (pa_nil))))))
    (pss_stop (pss_cons (ps_if (pt_cmp (o_eq hr.units) (pv 2) (pe_int) (nomark _)) (pss_one (ps_ret (pe_call (G__law_draw) (hr.mono (by decide)) T.g__law_draw T.k__law_draw passD (pa_cons (pv 0) (pa_cons (pv 1) (pa_cons (pe_int) (pa_nil))))))) (pss_nil))
    (pss_stop (pss_cons (ps_if (pt_cmp (o_eq hr.units) (pv 2) (pe_int) (nomark _)) (pss_one (ps_ret (pe_call (G__law_draw) (hr.mono (by decide)) T.g__law_draw T.k__law_draw passD (pa_cons (pv 0) (pa_cons (pv 1) (pa_cons (pe_int) (pa_nil))))))) (pss_nil))
    (pss_stop (pss_cons (ps_if (pt_cmp (o_eq hr.units) (pv 2) (pe_int) (nomark _)) (pss_one (ps_ret (pe_call (G__law_draw) (hr.mono (by decide)) T.g__law_draw T.k__law_draw passD (pa_cons (pv 0) (pa_cons (pv 1) (pa_cons (pe_int) (pa_nil))))))) (pss_nil))
    (pss_stop (pss_cons (ps_if (pt_cmp (o_eq hr.units) (pv 2) (pe_int) (nomark _)) (pss_one (ps_ret (pe_op o_sub (pe_op o_pow (pe_int) (pe_int)) (pe_call (G__law_draw) (hr.mono (by decide)) T.g__law_draw T.k__law_draw passD (pa_cons (pv 0) (pa_cons (pv 1) (pa_cons (pe_int) (pa_nil)))))))) (pss_nil))
    (pss_stop (pss_one (ps_ret (pe_op o_add (pe_call (G__law_wide) (hr.mono (by decide)) T.g__law_wide T.k__law_wide passD (pa_cons (pv 0) (pa_cons (pv 1) (pa_cons (pe_op o_pow (pe_int) (pe_int)) (pa_nil))))) (pe_int)))))))))))))
theorem ok__law_ends (T : T0 K mg) : FR P w K mg base 3 (He.fAd K ("_law_ends", none)) (sp__law_ends K) := by
  obtain ⟨fd, F⟩ := T.F__law_ends
  have G__law_draw := ok__law_draw (P := P) (w := w) (base := base) T
  have G__law_wide := ok__law_wide (P := P) (w := w) (base := base) T
  refine mk_fn F sc__law_ends (fun vs H Q E h => by
    revert h; intro h; (repeat (first | (obtain ⟨rfl, _⟩ := h; exact rfl) | obtain ⟨_, h⟩ := h))) (fun _ _ _ _ _ _ us hl => match us, hl with | [_, _, _, _], _ => rfl) (t := t__law_ends K) (fun cdv A outer s H E hr => ?_) (fun vs H Q E h => pure__law_ends vs H Q E h)
  exact pss_cons (ps_set (i := 4) sc__law_ends.nd rfl (Or.inl rfl) (pe_lst (pa_nil)))
    (pss_stop (pss_cons (ps_set (i := 5) sc__law_ends.nd rfl (Or.inl rfl) (pe_int))
    (pss_stop (pss_cons (ps_for ownD rfl (pi_rng (by rfl) T.n_range (pa_cons (pe_call (G__law_draw) (hr.mono (by decide)) T.g__law_draw T.k__law_draw passD (pa_cons (pv 0) (pa_cons (pv 1) (pa_cons (pe_op o_add (pv 3) (pe_int)) (pa_nil))))) (pa_nil))) (pg_name (i := 6) sc__law_ends.nd rfl (Or.inl rfl)) (pss_cons (ps_set (i := 7) sc__law_ends.nd rfl (Or.inl rfl) (pe_call (G__law_draw) (hr.mono (by decide)) T.g__law_draw T.k__law_draw passD (pa_cons (pv 0) (pa_cons (pv 1) (pa_cons (pe_int) (pa_nil))))))
    (pss_stop (pss_cons (ps_if (pt_cmp (o_eq hr.units) (pv 7) (pe_int) (nomark _)) (pss_one (ps_set (i := 5) sc__law_ends.nd rfl (Or.inl rfl) (pe_op o_add (pv 5) (pe_call (G__law_draw) (hr.mono (by decide)) T.g__law_draw T.k__law_draw passD (pa_cons (pv 0) (pa_cons (pv 1) (pa_cons (pe_int) (pa_nil)))))))) (pss_nil))
    (pss_stop (pss_cons (ps_if (pt_cmp (o_eq hr.units) (pv 7) (pe_int) (nomark _)) (pss_one (ps_set (i := 5) sc__law_ends.nd rfl (Or.inl rfl) (pe_op o_add (pv 5) (pe_call (G__law_wide) (hr.mono (by decide)) T.g__law_wide T.k__law_wide passD (pa_cons (pv 0) (pa_cons (pv 1) (pa_cons (pe_op o_add (pe_op o_fdiv (pv 2) (pe_int)) (pe_int)) (pa_nil)))))))) (pss_nil))
    (pss_stop (pss_cons (ps_if (pt_cmp (o_eq hr.units) (pv 7) (pe_int) (nomark _)) (pss_one (ps_set (i := 5) sc__law_ends.nd rfl (Or.inl rfl) (pe_op o_add (pv 5) (pe_call (G__law_wide) (hr.mono (by decide)) T.g__law_wide T.k__law_wide passD (pa_cons (pv 0) (pa_cons (pv 1) (pa_cons (pe_op o_add (pv 2) (pe_int)) (pa_nil)))))))) (pss_nil))
    (pss_stop (pss_cons (ps_if (pt_cmp o_lt (pv 5) (pv 2) (nomark _)) (pss_one (ps_expr (pe_ml PySem.F.slot_list_append PySem.F.type_list_append m_app (pv 4) (pa_cons (pv 5) (pa_nil))))) (pss_nil))
    (pss_stop (pss_one (ps_set (i := 5) sc__law_ends.nd rfl (Or.inl rfl) (pe_op o_add (pv 5) (pe_int)))))))))))))))
    (pss_stop (pss_one (ps_ret (pv 4))))))))
theorem ok_next_end (T : T0 K mg) : FR P w K mg base 1 (He.fAd K ("next_end", none)) (sp_next_end K) := by
  obtain ⟨fd, F⟩ := T.F_next_end
  refine mk_fn F sc_next_end (fun vs H Q E h => by
    revert h; intro h; (repeat (first | (obtain ⟨rfl, _⟩ := h; exact rfl) | obtain ⟨_, h⟩ := h))) (fun _ _ _ _ _ _ us hl => match us, hl with | [_, _, _, _], _ => rfl) (t := t_next_end K) (fun cdv A outer s H E hr => ?_) (fun vs H Q E h => pure_next_end vs H Q E h)
  exact pss_cons (ps_if (PW.pt (pw_or (pt_cmp (o_eq hr.units) (pv 3) (pe_cb c_len T.n_len (by decide +kernel) (pa_cons (pv 2) (pa_nil))) (nomark _)) (pw_or1 (PW.pt (pw_and (pt_cmp o_lt (pv 1) (pe_cb c_len T.n_len (by decide +kernel) (pa_cons (pv 0) (pa_nil))) (nomark _)) (pw_and1 (pt_cmp o_lt (pe_ix ix_any (pv 0) (pv 1) (fun _ _ => rfl)) (pe_ix ix_any (pv 2) (pv 3) (fun _ _ => rfl)) (nomark _)))))))) (pss_one (ps_ret (pe_ix ix_any (pv 0) (pv 1) (fun _ _ => rfl)))) (pss_nil))
    (pss_stop (pss_one (ps_ret (pe_ix ix_any (pv 2) (pv 3) (fun _ _ => rfl)))))
theorem ok_swept (T : T0 K mg) : FR P w K mg base 2 (He.fAd K ("swept", none)) (sp_swept K) := by
  obtain ⟨fd, F⟩ := T.F_swept
  have G_next_end := ok_next_end (P := P) (w := w) (base := base) T
  refine mk_fn F sc_swept (fun vs H Q E h => by
    revert h; intro h; (repeat (first | (obtain ⟨rfl, _⟩ := h; exact rfl) | obtain ⟨_, h⟩ := h))) (fun _ _ _ _ _ _ us hl => match us, hl with | [_, _, _], _ => rfl) (t := t_swept K) (fun cdv A outer s H E hr => ?_) (fun vs H Q E h => pure_swept vs H Q E h)
  exact pss_cons (ps_set (i := 3) sc_swept.nd rfl (Or.inl rfl) (pe_lst (pa_nil)))
    (pss_stop (pss_cons (ps_asg2 (pe_int) (pg_name (i := 4) sc_swept.nd rfl (Or.inl rfl)) (pg_name (i := 5) sc_swept.nd rfl (Or.inl rfl)))
    (pss_stop (pss_cons (ps_asg3 (pe_int) (pg_name (i := 6) sc_swept.nd rfl (Or.inl rfl)) (pg_name (i := 7) sc_swept.nd rfl (Or.inl rfl)) (pg_name (i := 8) sc_swept.nd rfl (Or.inl rfl)))
    (pss_stop (pss_cons (ps_while ownD (PW.pt (pw_or (pt_cmp o_lt (pv 4) (pe_cb c_len T.n_len (by decide +kernel) (pa_cons (pv 0) (pa_nil))) (nomark _)) (pw_or1 (pt_cmp o_lt (pv 5) (pe_cb c_len T.n_len (by decide +kernel) (pa_cons (pv 1) (pa_nil))) (nomark _))))) (pss_cons (ps_set (i := 9) sc_swept.nd rfl (Or.inl rfl) (pe_call (G_next_end) (hr.mono (by decide)) T.g_next_end T.k_next_end passD (pa_cons (pv 0) (pa_cons (pv 4) (pa_cons (pv 1) (pa_cons (pv 5) (pa_nil)))))))
    (pss_stop (pss_cons (ps_if (PW.pt (pw_and (pt_cmp o_lt (pv 4) (pe_cb c_len T.n_len (by decide +kernel) (pa_cons (pv 0) (pa_nil))) (nomark _)) (pw_and1 (pt_cmp (o_eq hr.units) (pe_ix ix_any (pv 0) (pv 4) (fun _ _ => rfl)) (pv 9) (nomark _))))) (pss_cons (ps_set (i := 6) sc_swept.nd rfl (Or.inl rfl) (pe_op o_sub (pe_int) (pv 6)))
    (pss_one (ps_set (i := 4) sc_swept.nd rfl (Or.inl rfl) (pe_op o_add (pv 4) (pe_int))))) (pss_nil))
    (pss_stop (pss_cons (ps_if (PW.pt (pw_and (pt_cmp o_lt (pv 5) (pe_cb c_len T.n_len (by decide +kernel) (pa_cons (pv 1) (pa_nil))) (nomark _)) (pw_and1 (pt_cmp (o_eq hr.units) (pe_ix ix_any (pv 1) (pv 5) (fun _ _ => rfl)) (pv 9) (nomark _))))) (pss_cons (ps_set (i := 7) sc_swept.nd rfl (Or.inl rfl) (pe_op o_sub (pe_int) (pv 7)))
    (pss_one (ps_set (i := 5) sc_swept.nd rfl (Or.inl rfl) (pe_op o_add (pv 5) (pe_int))))) (pss_nil))
    (pss_stop (pss_one (ps_if (pt_cmp (o_ne hr.units) (pe_ix ix_any (pv 2) (pe_op o_add (pe_op o_mul (pe_int) (pv 6)) (pv 7)) (fun _ _ => rfl)) (pv 8) (nomark _)) (pss_cons (ps_set (i := 8) sc_swept.nd rfl (Or.inl rfl) (pe_op o_sub (pe_int) (pv 8)))
    (pss_one (ps_expr (pe_ml PySem.F.slot_list_append PySem.F.type_list_append m_app (pv 3) (pa_cons (pv 9) (pa_nil)))))) (pss_nil))))))))))
    (pss_stop (pss_one (ps_ret (pe_ct c_tuple T.n_tuple (by decide +kernel) (pa_cons (pv 3) (pa_nil))))))))))))
theorem ok__law_is_number (T : T0 K mg) : FR P w K mg base 1 (He.fAd K ("_law_is_number", none)) (sp__law_is_number K) := by
  obtain ⟨fd, F⟩ := T.F__law_is_number
  refine mk_fn F sc__law_is_number (fun vs H Q E h => by
    revert h; intro h; (repeat (first | (obtain ⟨rfl, _⟩ := h; exact rfl) | obtain ⟨_, h⟩ := h))) (fun _ _ _ _ _ _ us hl => match us, hl with | [_], _ => rfl) (t := t__law_is_number K) (fun cdv A outer s H E hr => ?_) (fun vs H Q E h => pure__law_is_number vs H Q E h)
  exact pss_one (ps_ret (pe_and (pe_cb c_isi T.n_isinstance (by decide +kernel) (pa_cons (pv 0) (pa_cons (pe_bt T.n_int (by decide +kernel)) (pa_nil)))) (pe_one (pe_not (pe_cb c_isi T.n_isinstance (by decide +kernel) (pa_cons (pv 0) (pa_cons (pe_bt T.n_bool (by decide +kernel)) (pa_nil))))))))
theorem ok__law_in (T : T0 K mg) : FR P w K mg base 1 (He.fAd K ("_law_in", none)) (sp__law_in K) := by
  obtain ⟨fd, F⟩ := T.F__law_in
  refine mk_fn F sc__law_in (fun vs H Q E h => by
    revert h; intro h; (repeat (first | (obtain ⟨rfl, _⟩ := h; exact rfl) | obtain ⟨_, h⟩ := h))) (fun _ _ _ _ _ _ us hl => match us, hl with | [_, _], _ => rfl) (t := t__law_in K) (fun cdv A outer s H E hr => ?_) (fun vs H Q E h => pure__law_in vs H Q E h)
  exact pss_cons (ps_set (i := 2) sc__law_in.nd rfl (Or.inl rfl) (pe_bl))
    (pss_stop (pss_cons (ps_for ownD rfl (pi_seq (pv 0)) (pg_name (i := 3) sc__law_in.nd rfl (Or.inl rfl)) (pss_one (ps_if (pt_cmp o_le (pv 3) (pv 1) (nomark _)) (pss_one (ps_set (i := 2) sc__law_in.nd rfl (Or.inl rfl) (pe_not (pv 2)))) (pss_nil))))
    (pss_stop (pss_one (ps_ret (pv 2))))))
theorem ok_law (T : T0 K mg) {fd : FuncData} (F : FunD K "law" "law" (defArgs s_law) (defBody s_law) (defScope s_law) [] [] (He.fAd K ("law", none)) fd) : FnOk P w K mg base CX0 4 (He.fAd K ("law", none)) fd ["_law_script"] (sp_law K) := by
  have G__law_draw := ok__law_draw (P := P) (w := w) (base := base) T
  have G__law_ends := ok__law_ends (P := P) (w := w) (base := base) T
  have G__law_in := ok__law_in (P := P) (w := w) (base := base) T
  have G__law_is_number := ok__law_is_number (P := P) (w := w) (base := base) T
  have G__law_size := ok__law_size (P := P) (w := w) (base := base) T
  have G_swept := ok_swept (P := P) (w := w) (base := base) T
  refine mk_law F sc_law (fun vs H Q E h => by
    revert h; intro h; (repeat (first | (obtain ⟨rfl, _⟩ := h; exact rfl) | obtain ⟨_, h⟩ := h))) (t := t_law K) (fun cdv A outer s H E hr => ?_) (fun vs H Q E h => pure_law vs H Q E0 h)
  exact pss_cons (ps_set (i := 1) sc_law.nd rfl (Or.inl rfl) (pe_lst (pa_cons (pe_int) (pa_cons (pe_int) (pa_cons (pe_int) (pa_cons (pe_int) (pa_nil)))))))
    (pss_stop (pss_cons (ps_set (i := 2) sc_law.nd rfl (Or.inr rfl) (pe_call (G__law_size) (hr.mono (by decide)) T.g__law_size T.k__law_size passL0 (pa_cons (pv 0) (pa_cons (pv 1) (pa_nil)))))
    (pss_stop (pss_cons (ps_set (i := 3) sc_law.nd rfl (Or.inl rfl) (pe_call (G__law_ends) (hr.mono (by decide)) T.g__law_ends T.k__law_ends passL0 (pa_cons (pv 0) (pa_cons (pv 1) (pa_cons (pv 2) (pa_cons (pe_int) (pa_nil)))))))
    (pss_stop (pss_cons (ps_set (i := 4) sc_law.nd rfl (Or.inl rfl) (pe_call (G__law_ends) (hr.mono (by decide)) T.g__law_ends T.k__law_ends passL0 (pa_cons (pv 0) (pa_cons (pv 1) (pa_cons (pv 2) (pa_cons (pe_int) (pa_nil)))))))
    (pss_stop (pss_cons (ps_set (i := 5) sc_law.nd rfl (Or.inl rfl) (pe_call (G__law_draw) (hr.mono (by decide)) T.g__law_draw T.k__law_draw passL0 (pa_cons (pv 0) (pa_cons (pv 1) (pa_cons (pe_int) (pa_nil))))))
    (pss_stop (pss_cons (ps_if (pt_cmp (o_eq hr.units) (pv 5) (pe_int) (nomark _)) (pss_one (ps_set (i := 4) sc_law.nd rfl (Or.inl rfl) (pe_slice sl_any (pv 3) (po_some (pe_call (G__law_draw) (hr.mono (by decide)) T.g__law_draw T.k__law_draw passL0 (pa_cons (pv 0) (pa_cons (pv 1) (pa_cons (pe_int) (pa_nil)))))) (po_none)))) (pss_nil))
    (pss_stop (pss_cons (ps_if (pt_cmp (o_eq hr.units) (pv 5) (pe_int) (nomark _)) (pss_one (ps_setLc (i := 4) (own := [("_law_end", 11)]) rfl sc_law.nd rfl rfl (sw_true rfl rfl rfl (by decide +kernel)) (pi_seq (pv 3)) (blkOk_by (own := [("_law_end", 11)]) (N := ["_law_script", "_law_state", "_law_size_here", "_law_one", "_law_other", "_law_kind", "_law_rule", "_law_first", "_law_second", "_law_told", "_law_last", "_law_end", "_law_row", "_law_due"]) (sc := defScope s_law) (by decide +kernel)) (fun _ _ _ _ _ => pg_name (i := 11) sc_law.nd rfl (Or.inl rfl)) (fun _ _ _ _ _ => pts_one (pt_cmp o_lt (pe_op o_add (pv 11) (pe_int)) (pv 2) (nomark _))) (fun _ _ _ _ _ => pe_op o_add (pv 11) (pe_int)))) (pss_nil))
    (pss_stop (pss_cons (ps_if (pt_cmp (o_eq hr.units) (pv 5) (pe_int) (nomark _)) (pss_one (ps_setLc (i := 4) (own := [("_law_end", 11)]) rfl sc_law.nd rfl rfl (sw_true rfl rfl rfl (by decide +kernel)) (pi_seq (pv 3)) (blkOk_by (own := [("_law_end", 11)]) (N := ["_law_script", "_law_state", "_law_size_here", "_law_one", "_law_other", "_law_kind", "_law_rule", "_law_first", "_law_second", "_law_told", "_law_last", "_law_end", "_law_row", "_law_due"]) (sc := defScope s_law) (by decide +kernel)) (fun _ _ _ _ _ => pg_name (i := 11) sc_law.nd rfl (Or.inl rfl)) (fun _ _ _ _ _ => pts_one (pt_cmp (o_eq hr.units) (pe_op o_mod (pe_ct c_int T.n_int (by decide +kernel) (pa_cons (pv 11) (pa_nil))) (pe_int)) (pe_int) (nomark _))) (fun _ _ _ _ _ => pv 11))) (pss_nil))
    (pss_stop (pss_cons (ps_set (i := 6) sc_law.nd rfl (Or.inl rfl) (pe_tup (pa_cons (pe_int) (pa_cons (pe_call (G__law_draw) (hr.mono (by decide)) T.g__law_draw T.k__law_draw passL0 (pa_cons (pv 0) (pa_cons (pv 1) (pa_cons (pe_int) (pa_nil))))) (pa_cons (pe_call (G__law_draw) (hr.mono (by decide)) T.g__law_draw T.k__law_draw passL0 (pa_cons (pv 0) (pa_cons (pv 1) (pa_cons (pe_int) (pa_nil))))) (pa_cons (pe_call (G__law_draw) (hr.mono (by decide)) T.g__law_draw T.k__law_draw passL0 (pa_cons (pv 0) (pa_cons (pv 1) (pa_cons (pe_int) (pa_nil))))) (pa_nil)))))))
    (pss_stop (pss_cons (ps_set (i := 7) sc_law.nd rfl (Or.inl rfl) (pe_ct c_list T.n_list (by decide +kernel) (pa_cons (pv 3) (pa_nil))))
    (pss_stop (pss_cons (ps_set (i := 8) sc_law.nd rfl (Or.inl rfl) (pe_ct c_list T.n_list (by decide +kernel) (pa_cons (pv 4) (pa_nil))))
    (pss_stop (pss_cons (ps_if (pt_cmp (o_eq hr.units) (pe_call (G__law_draw) (hr.mono (by decide)) T.g__law_draw T.k__law_draw passL0 (pa_cons (pv 0) (pa_cons (pv 1) (pa_cons (pe_int) (pa_nil))))) (pe_int) (nomark _)) (pss_one (ps_set (i := 9) sc_law.nd rfl (Or.inl rfl) (pe_call (G_swept) (hr.mono (by decide)) T.g_swept T.k_swept passL0 (pa_cons (pe_ct c_tuple T.n_tuple (by decide +kernel) (pa_cons (pv 3) (pa_nil))) (pa_cons (pe_ct c_tuple T.n_tuple (by decide +kernel) (pa_cons (pv 4) (pa_nil))) (pa_cons (pv 6) (pa_nil))))))) (pss_one (ps_set (i := 9) sc_law.nd rfl (Or.inl rfl) (pe_call (G_swept) (hr.mono (by decide)) T.g_swept T.k_swept passL0 (pa_cons (pv 7) (pa_cons (pv 8) (pa_cons (pv 6) (pa_nil))))))))
    (pss_stop (pss_cons (ps_if (PW.pt (pw_or (pt_cmp (o_ne hr.units) (pv 7) (pv 3) (nomark _)) (pw_or (pt_cmp (o_ne hr.units) (pv 8) (pv 4) (nomark _)) (pw_or1 (pt_not (pt_of (pe_cb c_isi T.n_isinstance (by decide +kernel) (pa_cons (pv 9) (pa_cons (pe_bt T.n_tuple (by decide +kernel)) (pa_nil)))))))))) (pss_one (ps_ret (pe_bl))) (pss_nil))
    (pss_stop (pss_cons (ps_set (i := 10) sc_law.nd rfl (Or.inl rfl) (pe_un u_neg (pe_int)))
    (pss_stop (pss_cons (ps_for PassesOwn.never rfl (pi_seq (pv 9)) (pg_name (i := 11) sc_law.nd rfl (Or.inl rfl)) (pss_cons (ps_if (PW.pt (pw_or (pt_not (pt_of (pe_call (G__law_is_number) (hr.mono (by decide)) T.g__law_is_number T.k__law_is_number passL0 (pa_cons (pv 11) (pa_nil))))) (pw_or1 (pt_cmp o_le (pv 11) (pv 10) (nomark _))))) (pss_one (ps_ret (pe_bl))) (pss_nil))
    (pss_stop (pss_one (ps_set (i := 10) sc_law.nd rfl (Or.inl rfl) (pv 11))))))
    (pss_stop (pss_cons (ps_for PassesOwn.never rfl (pi_seq (pe_op o_add (pe_op o_add (pe_op o_add (pe_lst (pa_cons (pe_int) (pa_nil))) (pv 3)) (pv 4)) (pe_ct c_list T.n_list (by decide +kernel) (pa_cons (pv 9) (pa_nil))))) (pg_name (i := 12) sc_law.nd rfl (Or.inl rfl)) (pss_cons (ps_set (i := 13) sc_law.nd rfl (Or.inl rfl) (pe_ix ix_any (pv 6) (pe_op o_add (pe_op o_mul (pe_int) (pe_ct c_int T.n_int (by decide +kernel) (pa_cons (pe_call (G__law_in) (hr.mono (by decide)) T.g__law_in T.k__law_in passL0 (pa_cons (pv 3) (pa_cons (pv 12) (pa_nil)))) (pa_nil)))) (pe_ct c_int T.n_int (by decide +kernel) (pa_cons (pe_call (G__law_in) (hr.mono (by decide)) T.g__law_in T.k__law_in passL0 (pa_cons (pv 4) (pa_cons (pv 12) (pa_nil)))) (pa_nil)))) (fun _ _ => rfl)))
    (pss_stop (pss_one (ps_if (pt_cmp (o_ne hr.units) (pe_ct c_int T.n_int (by decide +kernel) (pa_cons (pe_call (G__law_in) (hr.mono (by decide)) T.g__law_in T.k__law_in passL0 (pa_cons (pv 9) (pa_cons (pv 12) (pa_nil)))) (pa_nil))) (pv 13) (nomark _)) (pss_one (ps_ret (pe_bl))) (pss_nil))))))
    (pss_stop (pss_one (ps_ret (pe_bl))))))))))))))))))))))))))))))))))
end
def hfn : List He.DefD := [⟨("_law_draw", none), "_law_draw", "_law_draw", defArgs s__law_draw, defBody s__law_draw, defScope s__law_draw, [], []⟩, ⟨("_law_wide", none), "_law_wide", "_law_wide", defArgs s__law_wide, defBody s__law_wide, defScope s__law_wide, [], []⟩, ⟨("_law_size", none), "_law_size", "_law_size", defArgs s__law_size, defBody s__law_size, defScope s__law_size, [], []⟩, ⟨("_law_ends", none), "_law_ends", "_law_ends", defArgs s__law_ends, defBody s__law_ends, defScope s__law_ends, [], []⟩, ⟨("next_end", none), "next_end", "next_end", defArgs s_next_end, defBody s_next_end, defScope s_next_end, [], []⟩, ⟨("swept", none), "swept", "swept", defArgs s_swept, defBody s_swept, defScope s_swept, [], []⟩, ⟨("_law_is_number", none), "_law_is_number", "_law_is_number", defArgs s__law_is_number, defBody s__law_is_number, defScope s__law_is_number, [], []⟩, ⟨("_law_in", none), "_law_in", "_law_in", defArgs s__law_in, defBody s__law_in, defScope s__law_in, [], []⟩, ⟨("law", none), "law", "law", defArgs s_law, defBody s_law, defScope s_law, [], []⟩]
def hfa : List He.Fa := [.glo "_law_draw", .glo "_law_ends", .glo "_law_in", .glo "_law_is_number", .glo "_law_size", .glo "_law_wide", .glo "law", .glo "next_end", .glo "swept", .free "abs", .free "bool", .free "int", .free "isinstance", .free "len", .free "list", .free "range", .free "tuple"]
abbrev hR : PySem.W.OpenRow := PySem.W.OpenLaw.row PySem.Challenge.rw_slicedcolumns_k02_swept
def hloose : List Str := ["next_end", "swept", "_law_draw", "_law_wide", "_law_size", "_law_ends", "_law_in", "_law_is_number"]
abbrev hhk : PySem.W.Hook := He.hookD 4 hfa hfn
def hob (s : PySem.W.SharedT) : He.AlD := He.obsDG 4 hfa hfn (HandSHeadRun.getT s)
theorem hob_eq (s : PySem.W.SharedT) : hob s = hhk.obs s.abs := He.obsDG_eq (HandSHeadRun.getT_eq s)
theorem hrun (w : World) : HandSHeadRun.RunEq hR (PySem.W.view hR.prog [10]) hhk hob 4000 hloose w := by
  intro os
  kernel_rfl
theorem hfacts {P : Program} {w : World} {K : Frag} {h : Heap} {mg : Str → Option Value} {f : Addr} (X : K.In h) (G : h.Ns mainGlobals mg) (hla : mg ("law" : Str) = some (.ref f)) (c : He.SaysD hfa hfn K) :
    ∃ fd : FuncData, (∀ (s : Shared) (v : Value), BindsTo s fd ⟨[v], []⟩ [("_law_script", v)]) ∧ ∀ base : Heap, K.In base → base.Ns mainGlobals mg → FnOk P w K mg base CX0 4 f fd ["_law_script"] (sp_law K) := by
  have g__law_draw := He.glo_ok X G (c.fact 0 (f := .glo "_law_draw") rfl)
  have g__law_ends := He.glo_ok X G (c.fact 1 (f := .glo "_law_ends") rfl)
  have g__law_in := He.glo_ok X G (c.fact 2 (f := .glo "_law_in") rfl)
  have g__law_is_number := He.glo_ok X G (c.fact 3 (f := .glo "_law_is_number") rfl)
  have g__law_size := He.glo_ok X G (c.fact 4 (f := .glo "_law_size") rfl)
  have g__law_wide := He.glo_ok X G (c.fact 5 (f := .glo "_law_wide") rfl)
  have g_law := He.glo_ok X G (c.fact 6 (f := .glo "law") rfl)
  have g_next_end := He.glo_ok X G (c.fact 7 (f := .glo "next_end") rfl)
  have g_swept := He.glo_ok X G (c.fact 8 (f := .glo "swept") rfl)
  have n_abs := He.free_ok X G (c.fact 9 (f := .free "abs") rfl)
  have n_bool := He.free_ok X G (c.fact 10 (f := .free "bool") rfl)
  have n_int := He.free_ok X G (c.fact 11 (f := .free "int") rfl)
  have n_isinstance := He.free_ok X G (c.fact 12 (f := .free "isinstance") rfl)
  have n_len := He.free_ok X G (c.fact 13 (f := .free "len") rfl)
  have n_list := He.free_ok X G (c.fact 14 (f := .free "list") rfl)
  have n_range := He.free_ok X G (c.fact 15 (f := .free "range") rfl)
  have n_tuple := He.free_ok X G (c.fact 16 (f := .free "tuple") rfl)
  have F__law_draw := c.def_ 0 rfl
  have F__law_wide := c.def_ 1 rfl
  have F__law_size := c.def_ 2 rfl
  have F__law_ends := c.def_ 3 rfl
  have F_next_end := c.def_ 4 rfl
  have F_swept := c.def_ 5 rfl
  have F__law_is_number := c.def_ 6 rfl
  have F__law_in := c.def_ 7 rfl
  have F_law := c.def_ 8 rfl
  have T : T0 K mg := ⟨n_abs, n_bool, n_int, n_isinstance, n_len, n_list, n_range, n_tuple, g__law_draw, g__law_ends, g__law_in, g__law_is_number, g__law_size, g__law_wide, g_law, g_next_end, g_swept, F__law_draw, (let ⟨_, F⟩ := F__law_draw; F.kp), F__law_wide, (let ⟨_, F⟩ := F__law_wide; F.kp), F__law_size, (let ⟨_, F⟩ := F__law_size; F.kp), F__law_ends, (let ⟨_, F⟩ := F__law_ends; F.kp), F_next_end, (let ⟨_, F⟩ := F_next_end; F.kp), F_swept, (let ⟨_, F⟩ := F_swept; F.kp), F__law_is_number, (let ⟨_, F⟩ := F__law_is_number; F.kp), F__law_in, (let ⟨_, F⟩ := F__law_in; F.kp), F_law, (let ⟨_, F⟩ := F_law; F.kp)⟩
  obtain ⟨fd, F⟩ := F_law
  have e := hla.symm.trans g_law
  cases e
  have b := FunD.bindsA (ps := ["_law_script"]) F fun _ _ _ _ _ _ us hl => match us, hl with | [_], _ => rfl
  exact ⟨fd, fun s v => b s [v] rfl, fun base _ _ => ok_law T F⟩
end S
open PySem PySem.W PySem.Calls PyProof.Rows
theorem PySem.Challenge.cw_slicedcolumns_k02_swept_holds : PySem.Challenge.rw_slicedcolumns_k02_swept.Holds := by
  w_on; o_law
  refine HandSHeadRun.head_any (r := OpenLaw.row PySem.Challenge.rw_slicedcolumns_k02_swept) (q := view (OpenLaw.row PySem.Challenge.rw_slicedcolumns_k02_swept).prog [10]) (H := S.hhk) (ob := S.hob) (M := 4000) (loose := S.hloose) (d := HandSHeadRun.topDef (OpenLaw.row PySem.Challenge.rw_slicedcolumns_k02_swept).prog 10) (kwd := []) S.hob_eq
    (by kernel_rfl) (fun s => by kernel_rfl) S.hrun (by kernel_rfl) (by kernel_rfl) (by kernel_rfl) (by rfl) (by first | assumption | decide +kernel) (by decide +kernel) ⟨rfl, rfl, rfl, rfl, rfl, by decide +kernel⟩ ?hw ?hc
  case hw => w_witness2
  case hc =>
    refine L2.walk_ofE (l := PySem.Challenge.rw_slicedcolumns_k02_swept) (n := 63) (k := 4) (x := "_law_script") (CX := L2.CX0) rfl (by decide) (by kernel_rfl) ⟨rfl, by decide, by decide⟩ ?F (fun _ _ _ _ z => z)
    intro w mg fa h Y G hmg0
    obtain ⟨K, KX, c⟩ := Y
    have hmg : mg ("law" : PySem.Str) = some (.ref fa) := by
      have e : (HandSHeadRun.topDef (OpenLaw.row PySem.Challenge.rw_slicedcolumns_k02_swept).prog 10).name = ("law" : PySem.Str) := by kernel_rfl
      rw [← e]
      exact hmg0
    obtain ⟨fd, hb, hF⟩ := S.hfacts (P := (PySem.Challenge.rw_slicedcolumns_k02_swept).prog) (w := w) KX G hmg c
    exact ⟨K, fd, S.sp_law K, KX, hb, fun H a ns hl _ hS => ⟨a, ns, rfl, hS, fun _ => rfl⟩, hF⟩
