import PyProof.Rows.All
import Wide.All
import OpenK.AllK
import Wide.FinOn
import HandS.ForMost
import HandS.ForExc
import HandS.TupAny
import HandS.IsInst
import HandS.Conv
import HandS.Defaults
import HandS.WideBits
import HandS.SortInts
import HandS.Slots
import HandS.Flow
import HandS.SlotsOwn
import HandS.Exc
import HandS.ExcOwn
import HandS.CallSlots
import HandS.ExcInit
import HandS.ExcIs
import KE.KExcIs
import KE.KExcSuper
import HandS.Head0
import HandS.Head1
import HandS.Head2
import HandS.HeadEnd
import HandS.HeadHook1
import HandS.HeadHook2
import KE.GoesEnum
import HandS.ExcField
import HandS.WideBits
import PyProof.StrReplace2
import KE.KOpsOwn
import HandS.Iter
import HandS.OwnEq
import HandS.Defaults
import HandS.MakeKwOnly
import HandS.TryOnly
import KE.SortCalls
import HandS.GenList
import HandS.Zip
import HandS.Strs
import HandS.TupSets
import PyProof.Rows.SetFrom
import PyProof.AutoSeq1
import PyProof.Rows.ChunkEnd
import HandS.IterNext
import HandS.OwnIter
import PyProof.NeKinds
import KE.SortData
import HandS.Deep
import HandS.Wide
import HandS.TryMany
import PyProof.WalksMore
import HandS.Text
import HandS.SortKw
import KE.DatumOrd
import HandS.MakeKw
import HandS.Dict
import HandS.DictComp
import HandS.More
import HandS.Small
import HandS.Conv
import KE.KDictPairs
import OpenK.KOps
import HandS.Nested
import KE.KSuper
import HandS.Style
import KE.OsArith
import KE.BitLaws
import PySem.Challenge.RW_slicedcolumns_k46_answer_algebra
set_option Elab.async false
set_option linter.all false
set_option maxRecDepth 100000
set_option maxHeartbeats 4000000
namespace S
open PySem PySem.Spec PyProof.Rows L2
abbrev Frag := PySem.W.Frag
/-! ## readings that reduce -/
theorem PE.of {X : Cx} {e : Expr} {t t' : TE} (h : PE X e t) (i : ∀ σ H Q, t' σ H Q → t σ H Q) : PE X e t' := ⟨fun pins s σ H Q I q => h.run pins s σ H Q I (i σ H Q q)⟩
theorem PT.of {X : Cx} {e : Expr} {t t' : TT} (h : PT X e t) (i : ∀ σ H Q, t' σ H Q → t σ H Q) : PT X e t' := ⟨fun pins s σ H Q I q => h.run pins s σ H Q I (i σ H Q q)⟩
theorem PS.of {X : Cx} {e : Stmt} {t t' : TS} (h : PS X e t) (i : ∀ D σ H, t' D σ H → t D σ H) : PS X e t' := ⟨fun pins s σ H Q I q => h.run pins s σ H Q I (i Q σ H q)⟩
theorem OpR.of {X : Cx} {f : Value → Value → Sem Value} {r r' : R2} (h : OpR X f r) (i : ∀ x y H Q, r' x y H Q → r x y H Q) : OpR X f r' := fun pins s σ H x y v u Q I rx ry q => h pins s σ H x y v u Q I rx ry (i x y H Q q)
theorem IxR.of {X : Cx} {r r' : R2} (h : IxR X r) (i : ∀ x y H Q, r' x y H Q → r x y H Q) : IxR X r' := fun e1 e2 pins s σ H x y v u Q I rx ry q hs => h e1 e2 pins s σ H x y v u Q I rx ry (i x y H Q q) hs
theorem CallR.of {X : Cx} {f : Value} {r r' : List V → Hp → VK → Prop} (h : CallR X f r) (i : ∀ xs H Q, r' xs H Q → r xs H Q) : CallR X f r' := fun pins s σ H xs us Q I rx q => h pins s σ H xs us Q I rx (i xs H Q q)
def nth : L2.St → Nat → Option V
  | [], _ => none
  | x :: _, 0 => x
  | _ :: r, n + 1 => nth r n
theorem nth_ok : ∀ {σ : L2.St} {i : Nat} {v : V}, nth σ i = some v → σ[i]? = some (some v)
  | [], _, _, h => nomatch h
  | x :: _, 0, _, h => by
    have e : x = some _ := h
    rw [e]; rfl
  | _ :: r, n + 1, _, h => by
    have := nth_ok (σ := r) (i := n) h
    simpa using this
def SqA (K : Frag) (H : Hp) (p : Addr) (xs : List V) : Prop := SqL K H p xs ∨ SqT K H p xs
/-! ### points at which a reading waits for an answer -/
/-- a condition, then on -/
structure Need (c q : Prop) : Prop where
  c : c
  q : q
/-- the sequence at p is read -/
structure Rd (K : Frag) (H : Hp) (p : Addr) (k : List V → Prop) : Prop where
  ex : ∃ xs, SqA K H p xs ∧ k xs
theorem Rd.l {K : Frag} {H : Hp} {p : Addr} {k : List V → Prop} {xs : List V} (h : H p = some (.lst xs)) (q : k xs) : Rd K H p k := ⟨xs, .inl (SqL.of h), q⟩
theorem Rd.t {K : Frag} {H : Hp} {p : Addr} {k : List V → Prop} {xs : List V} (h : H p = some (.tup xs)) (q : k xs) : Rd K H p k := ⟨xs, .inr (SqT.of h), q⟩
theorem Rd.sl {K : Frag} {H : Hp} {p : Addr} {k : List V → Prop} {xs : List V} (h : SqL K H p xs) (q : k xs) : Rd K H p k := ⟨xs, .inl h, q⟩
theorem Rd.st {K : Frag} {H : Hp} {p : Addr} {k : List V → Prop} {xs : List V} (h : SqT K H p xs) (q : k xs) : Rd K H p k := ⟨xs, .inr h, q⟩
theorem Rd.sa {K : Frag} {H : Hp} {p : Addr} {k : List V → Prop} {xs : List V} (h : SqA K H p xs) (q : k xs) : Rd K H p k := ⟨xs, h, q⟩
/-- the item at i -/
structure At (xs : List V) (i : Int) (k : V → Prop) : Prop where
  ex : ∃ v, atI xs i = some v ∧ k v
theorem At.of {xs : List V} {i : Int} {k : V → Prop} {v : V} (h : atI xs i = some v) (q : k v) : At xs i k := ⟨v, h, q⟩
/-- the list at p is to be changed -/
structure Ls (H : Hp) (p : Addr) (k : List V → Prop) : Prop where
  ex : ∃ xs, H p = some (.lst xs) ∧ k xs
theorem Ls.of {H : Hp} {p : Addr} {k : List V → Prop} {xs : List V} (h : H p = some (.lst xs)) (q : k xs) : Ls H p k := ⟨xs, h, q⟩
/-- a new list; a new tuple, or one that stands -/
structure NewL (H : Hp) (ys : List V) (Q : V → Hp → Prop) : Prop where
  go : ∀ p, H p = none → Q (.ref p) (upd H p (.lst ys))
structure NewT (K : Frag) (H : Hp) (ys : List V) (Q : V → Hp → Prop) : Prop where
  go : ∀ p H', Same H H' → SqT K H' p ys → Q (.ref p) H'
def onSome (o : Option V) (k : V → Prop) : Prop := match o with
  | some v => k v
  | none => False
def dVar (i : Nat) : TE := fun σ H Q => onSome (nth σ i) fun v => Q v H
theorem pv {X : Cx} (i : Nat) {x : Str} {pos : Pos} (hN : X.N[i]? = some x := by rfl) (hv : Vis X.env.scope x := by first | exact Or.inl rfl | exact Or.inr (Or.inl rfl) | exact Or.inr (Or.inr rfl)) (hd : (x == ("__debug__" : Str)) = false := by decide)
    (hcd : (x == ("__classdict__" : Str)) = false := by decide) : PE X (.Name x pos) (dVar i) := PE.of (pe_var hN hv hd hcd) fun σ H Q q => by
  unfold dVar onSome at q
  cases e : nth σ i with
  | none => rw [e] at q; exact q.elim
  | some v => rw [e] at q; exact ⟨v, nth_ok e, q⟩
/-- two ways by a bool -/
def bIf (b : Bool) (A B : Prop) : Prop := match b with
  | true => A
  | false => B
theorem bIf_of {b : Bool} {A B : Prop} (h : bIf b A B) : if b = true then A else B := by
  cases b with
  | true => exact iteT h
  | false => exact iteF h
theorem ifb {b : Bool} {A B : Prop} (h1 : b = true → A) (h2 : b = false → B) : bIf b A B := by
  cases b with
  | true => exact h1 rfl
  | false => exact h2 rfl
theorem ifd {c : Prop} [Decidable c] {A B : Prop} (h1 : c → A) (h2 : ¬ c → B) : bIf (decide c) A B := ifb (fun h => h1 (of_decide_eq_true h)) fun h => h2 (of_decide_eq_false h)
theorem ifn {c : Prop} [Decidable c] {A B : Prop} (h1 : ¬ c → A) (h2 : c → B) : bIf (!decide c) A B := ifb (fun h => h1 (by simpa using h)) fun h => h2 (by simpa using h)
theorem ift {c : Prop} [Decidable c] {A B : Prop} (hc : c) (h1 : A) : bIf (decide c) A B := by rw [decide_eq_true hc]; exact h1
theorem iff' {c : Prop} [Decidable c] {A B : Prop} (hc : ¬ c) (h1 : B) : bIf (decide c) A B := by rw [decide_eq_false hc]; exact h1
theorem ifnt {c : Prop} [Decidable c] {A B : Prop} (hc : ¬ c) (h1 : A) : bIf (!decide c) A B := by rw [decide_eq_false hc]; exact h1
theorem ifnf {c : Prop} [Decidable c] {A B : Prop} (hc : c) (h1 : B) : bIf (!decide c) A B := by rw [decide_eq_true hc]; exact h1
/-! ### tests -/
def dTru (K : Frag) (x : V) (H : Hp) (Q : Bool → Prop) : Prop := match x with
  | .bl b => Q b
  | .non => Q false
  | .int i => Q (decide (i ≠ 0))
  | .str z => Need (z.length ≤ sizeLine) (Q (decide (z.length ≠ 0)))
  | .ref p => Rd K H p fun xs => Q (decide (xs ≠ []))
  | _ => False
def dTest (K : Frag) (ta : TE) : TT := fun σ H Q => ta σ H fun x H1 => dTru K x H1 fun b => Q b H1
theorem pt_of {X : Cx} {a : Expr} {ta : TE} (ha : PE X a ta) (he : ∀ whole, isTrue a X.env whole = (do let v ← whole; standAt a.pos; holding [v] (truthy v)) := by intro _; rfl) : PT X a (dTest X.K ta) := by
  refine ⟨fun pins s σ H Q I h => ?_⟩
  refine isTrue_plain (thn (ha.run pins s σ H _ I h) fun v s1 ⟨x, H1, I1, r1, q1⟩ => ?_) (he _)
  cases x with
  | bl b =>
    exact tru_ok pins s1 σ H1 (.bl b) v Q I1 r1 ⟨b, rfl, q1⟩
  | non =>
    exact tru_ok pins s1 σ H1 .non v Q I1 r1 ⟨false, rfl, q1⟩
  | int i =>
    refine tru_ok pins s1 σ H1 (.int i) v Q I1 r1 ⟨_, rfl, ?_⟩
    have e : (i != 0) = decide (i ≠ 0) := by by_cases h : i = 0 <;> simp [h]
    rw [e]; exact q1
  | str z =>
    refine tru_ok pins s1 σ H1 (.str z) v Q I1 r1 ⟨_, ⟨q1.c, rfl⟩, ?_⟩
    have e : ((z.length : Int) != 0) = decide (z.length ≠ 0) := by by_cases h : z.length = 0 <;> simp [h]
    rw [e]; exact q1.q
  | ref p =>
    obtain ⟨⟨xs, hx, q⟩⟩ := q1
    have e : (!xs.isEmpty) = decide (xs ≠ []) := by cases xs <;> simp
    rcases hx with hx | hx
    · refine tru_ok pins s1 σ H1 (.ref p) v Q I1 r1 ⟨_, .inl ⟨xs, hx, rfl⟩, ?_⟩
      rw [e]; exact q
    · refine tru_ok pins s1 σ H1 (.ref p) v Q I1 r1 ⟨_, .inr (.inl ⟨xs, hx, rfl⟩), ?_⟩
      rw [e]; exact q
  | _ => exact q1.elim
def dAnd (t u : TT) : TT := fun σ H Q => t σ H fun c H1 => bIf c (u σ H1 Q) (Q false H1)
def dOr (t u : TT) : TT := fun σ H Q => t σ H fun c H1 => bIf c (Q true H1) (u σ H1 Q)
def dNot (t : TT) : TT := fun σ H Q => t σ H fun c H1 => Q (!c) H1
def dIfE (t : TT) (ta tb : TE) : TE := fun σ H Q => t σ H fun c H1 => bIf c (ta σ H1 Q) (tb σ H1 Q)
def dIfS (c : TT) (t u : TS) : TS := fun D σ H => c σ H fun b H1 => bIf b (t D σ H1) (u D σ H1)

/-! ### operators by the values -/
def int2 (k : Int → Int → Prop) (x y : V) : Prop := match x, y with
  | .int i, .int j => k i j
  | _, _ => False
/-- two lists, two tuples one behind the other -/
structure Cat (K : Frag) (H : Hp) (a b : Addr) (Q : V → Hp → Prop) : Prop where
  ex : (∃ xs zs, H a = some (.lst xs) ∧ H b = some (.lst zs) ∧ xs.length + zs.length ≤ sizeLine ∧ ∀ p, H p = none → Q (.ref p) (upd H p (.lst (xs ++ zs)))) ∨
     (∃ xs ys, SqT K H a xs ∧ SqT K H b ys ∧ xs.length + ys.length ≤ sizeLine ∧ ∀ p H', Same H H' → SqT K H' p (xs ++ ys) → Q (.ref p) H')
theorem Cat.l {K : Frag} {H : Hp} {a b : Addr} {Q : V → Hp → Prop} {xs zs : List V} (h : H a = some (.lst xs)) (h2 : H b = some (.lst zs)) (hz : xs.length + zs.length ≤ sizeLine) (q : ∀ p, H p = none → Q (.ref p) (upd H p (.lst (xs ++ zs)))) : Cat K H a b Q := ⟨.inl ⟨xs, zs, h, h2, hz, q⟩⟩
theorem Cat.t {K : Frag} {H : Hp} {a b : Addr} {Q : V → Hp → Prop} {xs ys : List V} (h : SqT K H a xs) (h2 : SqT K H b ys) (hz : xs.length + ys.length ≤ sizeLine) (q : ∀ p H', Same H H' → SqT K H' p (xs ++ ys) → Q (.ref p) H') : Cat K H a b Q := ⟨.inr ⟨xs, ys, h, h2, hz, q⟩⟩
def oAdd (K : Frag) : R2 := fun x y H Q => match x, y with
  | .int i, .int j => Q (.int (i + j)) H
  | .str a, .str b => Need (a.length + b.length ≤ sizeLine) (Q (.str (a ++ b)) H)
  | .ref a, .ref b => Cat K H a b Q
  | _, _ => False
theorem same_new {H : Hp} {p : Addr} {o : HO} (h : H p = none) : Same H (upd H p o) := fun b u e => by rw [upd_ne (ne_of_none e h)]; exact e
theorem o_add {X : Cx} : OpR X (binaryOp .Add) (oAdd X.K) := OpR.of (op_add.or (op_add_str.or (op_cat.or op_catA))) fun x y H Q q => by
  cases x <;> cases y <;> try exact q.elim
  · exact .inl ⟨_, _, rfl, rfl, q⟩
  · exact .inr (.inl ⟨_, _, rfl, rfl, q.c, q.q⟩)
  · rcases q.ex with ⟨xs, zs, h1, h2, h3, q⟩ | ⟨xs, ys, h1, h2, h3, q⟩
    · exact .inr (.inr (.inl ⟨_, _, xs, zs, rfl, rfl, h1, h2, h3, q⟩))
    · refine .inr (.inr (.inr ⟨_, _, xs, ys, rfl, rfl, h1, h2, h3, fun e => ?_, fun _ e => ?_, fun _ _ p hp => ?_⟩))
      · subst e; exact q _ _ (Same.refl _) h2
      · subst e; exact q _ _ (Same.refl _) (by rw [List.append_nil]; exact h1)
      · exact q _ _ (same_new hp) (SqT.of upd_same)
def oI (C : Int → Int → Prop) (g : Int → Int → Int) : R2 := fun x y H Q => int2 (fun i j => Need (C i j) (Q (.int (g i j)) H)) x y
def oI0 (g : Int → Int → Int) : R2 := fun x y H Q => int2 (fun i j => Q (.int (g i j)) H) x y
theorem oI_of {X : Cx} {f : Value → Value → Sem Value} {C : Int → Int → Prop} {g : Int → Int → Int} (h : OpR X f (rI C fun i j => .int (g i j))) : OpR X f (oI C g) := OpR.of h fun x y H Q q => by
  cases x <;> cases y <;> try exact q.elim
  exact ⟨_, _, rfl, rfl, q.c, q.q⟩
theorem oI0_of {X : Cx} {f : Value → Value → Sem Value} {g : Int → Int → Int} (h : OpR X f (rI0 fun i j => .int (g i j))) : OpR X f (oI0 g) := OpR.of h fun x y H Q q => by
  cases x <;> cases y <;> try exact q.elim
  exact ⟨_, _, rfl, rfl, q⟩
def oSub : R2 := oI0 fun i j => i - j
theorem o_sub {X : Cx} : OpR X (binaryOp .Sub) oSub := oI0_of op_sub
def oMul : R2 := oI CMul fun i j => i * j
theorem o_mul {X : Cx} : OpR X (binaryOp .Mult) oMul := oI_of op_mul
def oFdiv : R2 := oI CDiv fun i j => i / j
theorem o_fdiv {X : Cx} : OpR X (binaryOp .FloorDiv) oFdiv := oI_of op_fdiv
def oMod : R2 := oI (fun _ j => 0 < j) fun i j => i % j
theorem o_mod {X : Cx} : OpR X (binaryOp .Mod) oMod := oI_of op_mod
def oPow : R2 := oI CPow fun i j => i ^ j.toNat
theorem o_pow {X : Cx} : OpR X (binaryOp .Pow) oPow := oI_of op_pow
def oAnd : R2 := oI0 fun i j => Builtin.bitAnd i j
theorem o_and {X : Cx} : OpR X (binaryOp .BitAnd) oAnd := oI0_of op_and
def oShl : R2 := oI CPow fun i j => i * 2 ^ j.toNat
theorem o_shl {X : Cx} : OpR X (binaryOp .LShift) oShl := oI_of op_shl
def oShr : R2 := oI (fun _ j => 0 ≤ j) fun i j => i / 2 ^ j.toNat
theorem o_shr {X : Cx} : OpR X (binaryOp .RShift) oShr := oI_of op_shr
def uNeg : V → Hp → VK → Prop := fun x H Q => match x with
  | .int i => Q (.int (-i)) H
  | _ => False
theorem u_neg {X : Cx} : UnR X (unaryOp .USub) uNeg := fun pins s σ H x v Q I rx q => by
  cases x <;> try exact q.elim
  exact un_neg pins s σ H _ v Q I rx ⟨_, rfl, q⟩
def oC (g : Int → Int → Bool) : R2 := fun x y H Q => int2 (fun i j => Q (.bl (g i j)) H) x y
theorem oC_of {X : Cx} {f : Value → Value → Sem Value} {g : Int → Int → Bool} (h : OpR X f (rI0 fun i j => .bl (g i j))) : OpR X f (oC g) := OpR.of h fun x y H Q q => by
  cases x <;> cases y <;> try exact q.elim
  exact ⟨_, _, rfl, rfl, q⟩
def oLt : R2 := oC fun i j => decide (i < j)
def oLe : R2 := oC fun i j => decide (i ≤ j)
def oGt : R2 := oC fun i j => decide (j < i)
def oGe : R2 := oC fun i j => decide (j ≤ i)
theorem o_lt {X : Cx} : OpR X (compareOp .Lt) oLt := oC_of op_lt
theorem o_le {X : Cx} : OpR X (compareOp .LtE) oLe := oC_of op_le
theorem o_gt {X : Cx} : OpR X (compareOp .Gt) oGt := oC_of op_gt
theorem o_ge {X : Cx} : OpR X (compareOp .GtE) oGe := oC_of op_ge
def oIsN : R2 := fun x y H Q => y = .non ∧ Q (.bl (match x with | .non => true | _ => false)) H
def oNotN : R2 := fun x y H Q => y = .non ∧ Q (.bl (match x with | .non => false | _ => true)) H
theorem o_isN {X : Cx} : OpR X (compareOp .Is) oIsN := OpR.of op_isN fun x y H Q q => ⟨q.1, by cases x <;> exact q.2⟩
theorem o_notN {X : Cx} : OpR X (compareOp .IsNot) oNotN := OpR.of op_notN fun x y H Q q => ⟨q.1, by cases x <;> exact q.2⟩
/-- two data compared -/
structure EqD (K : Frag) (H : Hp) (x y : V) (k : Bool → Prop) : Prop where
  ex : ∃ d e, Dp K H x d ∧ Dp K H y e ∧ SeqAt.shaped d = true ∧ SeqAt.shaped e = true ∧ k (PyData.eqv d e)
/-- == of scalars and of data -/
def oEq (K : Frag) : R2 := fun x y H Q => match x, y with
  | .int i, .int j => Q (.bl (decide (i = j))) H
  | .str i, .str j => Q (.bl (decide (i = j))) H
  | .bl i, .bl j => Q (.bl (decide (i = j))) H
  | .non, .non => Q (.bl true) H
  | .non, .int _ => Q (.bl false) H
  | .int _, .non => Q (.bl false) H
  | .non, .bl _ => Q (.bl false) H
  | .bl _, .non => Q (.bl false) H
  | .non, .str _ => Q (.bl false) H
  | .str _, .non => Q (.bl false) H
  | .int _, .str _ => Q (.bl false) H
  | .str _, .int _ => Q (.bl false) H
  | x, y => EqD K H x y fun b => Q (.bl b) H
def oNe (K : Frag) : R2 := fun x y H Q => oEq K x y H fun v H' => match v with
  | .bl b => Q (.bl (!b)) H'
  | _ => False
theorem o_eq {X : Cx} (hu : X.A.units + 64 < cLine) : OpR X (compareOp .Eq) (oEq X.K) := OpR.of (op_eq.or (op_eqD hu)) fun x y H Q q => by
  cases x <;> cases y <;> first
    | exact .inr q.ex
    | (refine .inl ⟨rfl, ?_⟩; refine Eq.mp (congrArg (fun b => Q (V.bl b) H) ?_) q; simp)
theorem o_ne {X : Cx} (hu : X.A.units + 64 < cLine) : OpR X (compareOp .NotEq) (oNe X.K) := OpR.of (op_ne.or (op_neD hu)) fun x y H Q q => by
  cases x <;> cases y <;> first
    | exact .inr q.ex
    | (refine .inl ⟨rfl, ?_⟩; refine Eq.mp (congrArg (fun b => Q (V.bl b) H) ?_) q; simp)
/-! ### comparisons as tests, chains -/
def dCmp (r : R2) (ta tb : TE) : TE := tOp r ta tb
def isB (Q : Bool → Hp → Prop) : VK := fun z H => match z with
  | .bl k => Q k H
  | _ => False
theorem isB_ex {Q : Bool → Hp → Prop} {z : V} {H : Hp} (h : isB Q z H) : ∃ k, z = .bl k ∧ Q k H := by
  cases z <;> try exact h.elim
  exact ⟨_, rfl, h⟩
def dCmpT (r : R2) (ta tb : TE) : TT := fun σ H Q => ta σ H fun x H1 => tb σ H1 fun y H2 => r x y H2 (isB Q)
theorem pt_cmp {X : Cx} {op : CmpOp} {a b : Expr} {ta tb : TE} {pos : Pos} {r : R2} (ho : OpR X (compareOp op) r) (ha : PE X a ta) (hb : PE X b tb) (hm : behindInMarks op b = false) : PT X (.Compare a [op] [b] pos) (dCmpT r ta tb) := by
  refine ⟨fun pins s σ H Q I h => ?_⟩
  refine wpAny_isTrue_Compare1 (thn (ha.run pins s σ H _ I h) fun v s1 ⟨x, H1, I1, r1, q1⟩ => thn (hb.run pins s1 σ H1 _ I1 q1) fun u s2 ⟨y, H2, I2, r2, q2⟩ =>
    thn (ho pins s2 σ H2 x y v u _ I2 r1 r2 q2) fun c s3 ⟨z, H3, I3, r3, q3⟩ => ?_) hm
  obtain ⟨k, e, q3⟩ := isB_ex q3
  subst e
  cases r3
  exact wpAny_truthy_bool ⟨H3, I3, q3⟩
def dChain (r r' : R2) (ta tb tc : TE) : TE := fun σ H Q => ta σ H fun x H1 => tb σ H1 fun y H2 => r x y H2 (isB fun k H3 => bIf k (tc σ H3 fun w' H4 => r' y w' H4 Q) (Q (.bl false) H3))
def dChainT (r r' : R2) (ta tb tc : TE) : TT := fun σ H Q => dChain r r' ta tb tc σ H (isB Q)
theorem pe_cmp {X : Cx} {op : CmpOp} {a b : Expr} {ta tb : TE} {pos : Pos} {r : R2} (ho : OpR X (compareOp op) r) (ha : PE X a ta) (hb : PE X b tb) (hm : behindInMarks op b = false) : PE X (.Compare a [op] [b] pos) (tOp r ta tb) := pe_cmpR ho ha hb hm
theorem pe_chain {X : Cx} {op op' : CmpOp} {a b c : Expr} {r r' : R2} {ta tb tc : TE} {pos : Pos} (ho : OpR X (compareOp op) r) (ho' : OpR X (compareOp op') r') (ha : PE X a ta) (hb : PE X b tb) (hc : PE X c tc)
    (hm : lastMarks [op, op'] [b, c] = false := by with_unfolding_all rfl) : PE X (.Compare a [op, op'] [b, c] pos) (dChain r r' ta tb tc) := by
  refine ⟨fun pins s σ H Q I h => ?_⟩
  refine Compare_chain (thn (ha.run pins s σ H _ I h) fun v s1 ⟨x, H1, I1, r1, q1⟩ => chain_link (thn (hb.run pins s1 σ H1 _ I1 q1) fun u s2 ⟨y, H2, I2, r2, q2⟩ =>
    thn (ho pins s2 σ H2 x y v u _ I2 r1 r2 q2) fun d s3 ⟨z, H3, I3, r3, q3⟩ => ?_)) hm
  obtain ⟨k, e, q3⟩ := isB_ex q3
  subst e
  cases r3
  refine wpAny_truthy_bool ?_
  cases k with
  | false => exact ite_ff ⟨.bl false, H3, I3, rfl, q3⟩
  | true => exact ite_tt (chain_last (thn (hc.run pins s3 σ H3 _ I3 q3) fun w' s4 ⟨z', H4, I4, r4, q4⟩ => ho' pins s4 σ H4 y z' u w' Q I4 r2 r4 q4))
theorem pt_chain {X : Cx} {op op' : CmpOp} {a b c : Expr} {r r' : R2} {ta tb tc : TE} {pos : Pos} (ho : OpR X (compareOp op) r) (ho' : OpR X (compareOp op') r') (ha : PE X a ta) (hb : PE X b tb) (hc : PE X c tc)
    (hm : lastMarks [op, op'] [b, c] = false := by with_unfolding_all rfl) : PT X (.Compare a [op, op'] [b, c] pos) (dChainT r r' ta tb tc) := by
  refine ⟨fun pins s σ H Q I h => ?_⟩
  refine isTrue_chain (thn (ha.run pins s σ H _ I h) fun v s1 ⟨x, H1, I1, r1, q1⟩ => test_link (thn (hb.run pins s1 σ H1 _ I1 q1) fun u s2 ⟨y, H2, I2, r2, q2⟩ =>
    thn (ho pins s2 σ H2 x y v u _ I2 r1 r2 q2) fun d s3 ⟨z, H3, I3, r3, q3⟩ => ?_)) hm
  obtain ⟨k, e, q3⟩ := isB_ex q3
  subst e
  cases r3
  refine wpAny_truthy_bool ?_
  cases k with
  | false => exact ite_ff ⟨H3, I3, q3⟩
  | true =>
    refine ite_tt (test_last (thn (hc.run pins s3 σ H3 _ I3 q3) fun w' s4 ⟨z', H4, I4, r4, q4⟩ => thn (ho' pins s4 σ H4 y z' u w' _ I4 r2 r4 q4) fun d' s5 ⟨z2, H5, I5, r5, q5⟩ => ?_))
    obtain ⟨k2, e2, q5⟩ := isB_ex q5
    subst e2
    cases r5
    exact wpAny_truthy_bool ⟨H5, I5, q5⟩
theorem pw_and {X : Cx} {a b : Expr} {rest : List Expr} {tA tB' : TT} {pos : Pos} (ha : PT X a tA) (hb : PW X (.BoolOp .And (b :: rest) pos) tB') : PW X (.BoolOp .And (a :: b :: rest) pos) (dAnd tA tB') := by
  refine ⟨fun wh pins s σ H Q I h => ?_⟩
  refine isTrue_and (thn (ha.run pins s σ H _ I h) fun c s1 ⟨H1, I1, q1⟩ => ?_)
  cases c with
  | true => exact hb.run wh pins s1 σ H1 Q I1 q1
  | false => exact ⟨H1, I1, q1⟩
theorem pw_or {X : Cx} {a b : Expr} {rest : List Expr} {tA tB' : TT} {pos : Pos} (ha : PT X a tA) (hb : PW X (.BoolOp .Or (b :: rest) pos) tB') : PW X (.BoolOp .Or (a :: b :: rest) pos) (dOr tA tB') := by
  refine ⟨fun wh pins s σ H Q I h => ?_⟩
  refine isTrue_or (thn (ha.run pins s σ H _ I h) fun c s1 ⟨H1, I1, q1⟩ => ?_)
  cases c with
  | true => exact ⟨H1, I1, q1⟩
  | false => exact hb.run wh pins s1 σ H1 Q I1 q1
theorem pt_not {X : Cx} {a : Expr} {tA : TT} {pos : Pos} (ha : PT X a tA) : PT X (.UnaryOp .Not a pos) (dNot tA) := L2.pt_not ha
theorem pe_ifE {X : Cx} {c a b : Expr} {tA : TT} {ta tb : TE} {pos : Pos} (hc : PT X c tA) (ha : PE X a ta) (hb : PE X b tb) : PE X (.IfExp c a b pos) (dIfE tA ta tb) := by
  refine ⟨fun pins s σ H Q I h => ?_⟩
  refine wpAny_IfExp (thn (hc.run pins s σ H _ I h) fun d s1 ⟨H1, I1, q1⟩ => ?_)
  cases d with
  | true => exact ha.run pins s1 σ H1 Q I1 q1
  | false => exact hb.run pins s1 σ H1 Q I1 q1
theorem ps_if {X : Cx} {c : Expr} {a b : List Stmt} {tc : TT} {t u : TS} {pos : Pos} (hc : PT X c tc) (ha : PSs X a t) (hb : PSs X b u) : PS X (.If c a b pos) (dIfS tc t u) := by
  refine ⟨fun pins s σ H D I h => ?_⟩
  refine wpAny_If (thn (hc.run pins s σ H _ I h) fun d s1 ⟨H1, I1, q1⟩ => ?_)
  cases d with
  | true => exact ha.run pins s1 σ H1 D I1 q1
  | false => exact hb.run pins s1 σ H1 D I1 q1
/-- and, or as values: all but the last True or False -/
def dAndV (ta tb : TE) : TE := fun σ H Q => ta σ H (isB fun c H1 => bIf c (tb σ H1 Q) (Q (.bl false) H1))
def dOrV (ta tb : TE) : TE := fun σ H Q => ta σ H (isB fun c H1 => bIf c (Q (.bl true) H1) (tb σ H1 Q))
def dNotV (ta : TE) : TE := fun σ H Q => ta σ H (isB fun c H1 => Q (.bl (!c)) H1)
theorem pe_and {X : Cx} {a b : Expr} {rest : List Expr} {ta tb : TE} {pos : Pos} (ha : PE X a ta) (hb : PE X (.BoolOp .And (b :: rest) pos) tb) : PE X (.BoolOp .And (a :: b :: rest) pos) (dAndV ta tb) := by
  refine ⟨fun pins s σ H Q I h => ?_⟩
  refine BoolOp_and (thn (ha.run pins s σ H _ I h) fun v s1 ⟨x, H1, I1, r1, q1⟩ => ?_)
  obtain ⟨c, e, q⟩ := isB_ex q1
  subst e
  cases r1
  refine wpAny_truthy_bool ?_
  cases c with
  | true => exact hb.run pins s1 σ H1 Q I1 q
  | false => exact ⟨.bl false, H1, I1, rfl, q⟩
theorem pe_or {X : Cx} {a b : Expr} {rest : List Expr} {ta tb : TE} {pos : Pos} (ha : PE X a ta) (hb : PE X (.BoolOp .Or (b :: rest) pos) tb) : PE X (.BoolOp .Or (a :: b :: rest) pos) (dOrV ta tb) := by
  refine ⟨fun pins s σ H Q I h => ?_⟩
  refine BoolOp_or (thn (ha.run pins s σ H _ I h) fun v s1 ⟨x, H1, I1, r1, q1⟩ => ?_)
  obtain ⟨c, e, q⟩ := isB_ex q1
  subst e
  cases r1
  refine wpAny_truthy_bool ?_
  cases c with
  | true => exact ⟨.bl true, H1, I1, rfl, q⟩
  | false => exact hb.run pins s1 σ H1 Q I1 q
theorem pe_not {X : Cx} {a : Expr} {ta : TE} {pos : Pos} (ha : PE X a ta) : PE X (.UnaryOp .Not a pos) (dNotV ta) := by
  refine ⟨fun pins s σ H Q I h => ?_⟩
  refine UnaryOp_ (thn (ha.run pins s σ H _ I h) fun v s1 ⟨x, H1, I1, r1, q1⟩ => ?_)
  obtain ⟨c, e, q⟩ := isB_ex q1
  subst e
  cases r1
  exact not_of (wpAny_truthy_bool ⟨.bl (!c), H1, I1, rfl, q⟩)
/-! ### subscripts, slices -/
/-- the sign at i -/
structure AtS (z : Str) (i : Int) (k : Nat → Prop) : Prop where
  ex : ∃ c, atI z.cps.toList i = some c ∧ k c
def oIx (K : Frag) : R2 := fun x y H Q => match x, y with
  | .ref p, .int i => Rd K H p fun xs => At xs i fun v => Q v H
  | .str z, .int i => Need (z.length ≤ sizeLine) (AtS z i fun c => Q (.str ⟨#[c]⟩) H)
  | _, _ => False
theorem ix_any {X : Cx} : IxR X (oIx X.K) := IxR.of ix_seq fun x y H Q q => by
  cases x <;> cases y <;> try exact q.elim
  · obtain ⟨hz, ⟨c, e, q⟩⟩ := q
    exact .inr (.inr ⟨_, _, c, rfl, rfl, hz, e, q⟩)
  · obtain ⟨⟨xs, hs, ⟨v, e, q⟩⟩⟩ := q
    rcases hs with hs | hs
    · exact .inl ⟨_, xs, _, v, rfl, rfl, hs, e, q⟩
    · exact .inr (.inl ⟨_, xs, _, v, rfl, rfl, hs, e, q⟩)
def dPart (t : TE) : TO := fun σ H Q => t σ H fun x H1 => match x with
  | .int i => Q (some i) H1
  | _ => False
theorem po_some {X : Cx} {e : Expr} {te : TE} (h : PE X e te) : PO X (some e) (dPart te) := by
  refine ⟨fun pins s σ H Q I q => ?_⟩
  rw [evalPart_some]
  refine thn (h.run pins s σ H _ I q) fun u s1 ⟨x, H1, I1, r1, q1⟩ => ?_
  cases x <;> try exact q1.elim
  obtain ⟨t, rfl⟩ := r1
  exact ⟨_, H1, I1, .int _ t, q1⟩
/-- a slice of the list, of the tuple at p -/
structure Cut (K : Frag) (H : Hp) (p : Addr) (lo hi : Option Int) (Q : V → Hp → Prop) : Prop where
  ex : (∃ xs, SqL K H p xs ∧ ∀ q, H q = none → Q (.ref q) (upd H q (.lst (cutV xs lo hi)))) ∨ (∃ xs, SqT K H p xs ∧ ∀ q H', Same H H' → SqT K H' q (cutV xs lo hi) → Q (.ref q) H')
theorem Cut.l {K : Frag} {H : Hp} {p : Addr} {lo hi : Option Int} {Q : V → Hp → Prop} {xs : List V} (h : SqL K H p xs) (q : ∀ q, H q = none → Q (.ref q) (upd H q (.lst (cutV xs lo hi)))) : Cut K H p lo hi Q := ⟨.inl ⟨xs, h, q⟩⟩
theorem Cut.t {K : Frag} {H : Hp} {p : Addr} {lo hi : Option Int} {Q : V → Hp → Prop} {xs : List V} (h : SqT K H p xs) (q : ∀ q H', Same H H' → SqT K H' q (cutV xs lo hi) → Q (.ref q) H') : Cut K H p lo hi Q := ⟨.inr ⟨xs, h, q⟩⟩
def oSl (K : Frag) : V → Option Int → Option Int → Hp → VK → Prop := fun x lo hi H Q => match x with
  | .ref p => Cut K H p lo hi Q
  | _ => False
theorem SlR.of {X : Cx} {r r' : V → Option Int → Option Int → Hp → VK → Prop} (h : SlR X r) (i : ∀ x l u H Q, r' x l u H Q → r x l u H Q) : SlR X r' := fun pins s σ H x v vl vu lo hi sl Q I rx hs pl pu q => h pins s σ H x v vl vu lo hi sl Q I rx hs pl pu (i x lo hi H Q q)
theorem cut_whole {xs : List V} {lo hi : Option Int} (h : HT.sIx xs.length 0 lo = 0 ∧ HT.sIx xs.length xs.length hi = xs.length) : cutV xs lo hi = xs := by
  unfold cutV
  rw [h.1, h.2]
  simp
theorem sl_any {X : Cx} : SlR X (oSl X.K) := SlR.of (sl_list.or sl_tupA) fun x lo hi H Q q => by
  cases x <;> try exact q.elim
  rcases q.ex with ⟨xs, h, q⟩ | ⟨xs, h, q⟩
  · exact .inl ⟨_, xs, rfl, h, q⟩
  · refine .inr ⟨_, xs, rfl, h, fun w => ?_, fun _ p hp => q _ _ (same_new hp) (SqT.of upd_same)⟩
    exact q _ _ (Same.refl _) (by rw [cut_whole w]; exact h)
/-! ### displays -/
def dLst (t : TA) : TE := fun σ H Q => t σ H fun xs H1 => Need (xs.length ≤ sizeLine) (NewL H1 xs Q)
def dTup (K : Frag) (t : TA) : TE := fun σ H Q => t σ H fun xs H1 => Need (xs.length ≤ sizeLine) (NewT K H1 xs Q)
theorem pe_tup {X : Cx} {es : List Expr} {t : TA} {x1} {pos : Pos} (h : PA X es t) : PE X (.Tuple es x1 pos) (dTup X.K t) := by
  refine ⟨fun pins s σ H Q I hq => ?_⟩
  refine wpAny_Tuple_spliced (thn (h.run pos pins s σ H _ I hq) fun us s1 ⟨xs, H1, I1, r, ⟨z, ⟨q⟩⟩⟩ => ⟨by rw [← r.length]; exact z, ?_⟩)
  have hf : H1 s1.heap.objs.size = none := I1.hok.fresh (Nat.le_refl _)
  refine ⟨.ref s1.heap.objs.size, upd H1 s1.heap.objs.size (.tup xs), I1.laid (t' := s1.toks) (fun b u e => Heap.get?_push_of_some _ e) (Nat.le_refl _) ?_, rfl, q _ _ (same_new hf) (SqT.of upd_same)⟩
  exact ⟨z, us, r, ⟨_, Heap.get?_push_size _ rfl, rfl, _, rfl⟩⟩
theorem pe_lst {X : Cx} {es : List Expr} {t : TA} {pos : Pos} (h : PA X es t) : PE X (.List es pos) (dLst t) := by
  refine ⟨fun pins s σ H Q I hq => ?_⟩
  refine wpAny_List_spliced (thn (h.run pos pins s σ H _ I hq) fun us s1 ⟨xs, H1, I1, r, ⟨z, ⟨q⟩⟩⟩ => ⟨by rw [← r.length]; exact z, ?_⟩)
  have hf : H1 s1.heap.objs.size = none := I1.hok.fresh (Nat.le_refl _)
  refine ⟨.ref s1.heap.objs.size, upd H1 s1.heap.objs.size (.lst xs), I1.laid (t' := s1.toks) (fun b u e => Heap.get?_push_of_some _ e) (Nat.le_refl _) ?_, rfl, q _ hf⟩
  exact ⟨z, us, 0, r, Heap.get?_push_size _ rfl⟩
/-! ### builtin calls -/
def cLen (K : Frag) : List V → Hp → VK → Prop := fun xs H Q => match xs with
  | [.str z] => Need (z.length ≤ sizeLine) (Q (.int z.length) H)
  | [.ref p] => Rd K H p fun ys => Q (.int ys.length) H
  | _ => False
theorem c_len {X : Cx} : CallR X (.builtin "len") (cLen X.K) := CallR.of (call_len_seq.or call_len_str) fun xs H Q q => by
  match xs, q with
  | [.str z], q => exact .inr ⟨z, rfl, q.c, q.q⟩
  | [.ref p], ⟨⟨ys, h, q⟩⟩ => exact .inl ⟨p, ys, rfl, h, q⟩
def cTuple (K : Frag) : List V → Hp → VK → Prop := fun xs H Q => match xs with
  | [.ref p] => Rd K H p fun ys => NewT K H ys Q
  | _ => False
theorem c_tuple {X : Cx} : CallR X (.type "tuple") (cTuple X.K) := CallR.of call_tuple_of fun xs H Q q => by
  match xs, q with
  | [.ref p], ⟨⟨ys, h, ⟨q⟩⟩⟩ =>
    refine ⟨p, ys, rfl, ?_⟩
    rcases h with h | h
    · exact .inl ⟨h, fun l hl => q _ _ (same_new hl) (SqT.of upd_same)⟩
    · exact .inr ⟨h, q _ _ (Same.refl _) h⟩
def cList (K : Frag) : List V → Hp → VK → Prop := fun xs H Q => match xs with
  | [.ref p] => Rd K H p fun ys => NewL H ys Q
  | _ => False
theorem c_list {X : Cx} : CallR X (.type "list") (cList X.K) := CallR.of call_list_of fun xs H Q q => by
  match xs, q with
  | [.ref p], ⟨⟨ys, h, ⟨q⟩⟩⟩ => exact ⟨p, ys, rfl, h, q⟩
def b2i (b : Bool) : Int := match b with
  | true => 1
  | false => 0
def cInt : List V → Hp → VK → Prop := fun xs H Q => match xs with
  | [.int i] => Q (.int i) H
  | [.bl b] => Q (.int (b2i b)) H
  | _ => False
theorem c_int {X : Cx} : CallR X (.type "int") cInt := CallR.of call_int1 fun xs H Q q => by
  match xs, q with
  | [.int i], q => exact .inl ⟨_, rfl, q⟩
  | [.bl b], q =>
    refine .inr ⟨_, rfl, ?_⟩
    cases b <;> exact q
def cAbs : List V → Hp → VK → Prop := fun xs H Q => match xs with
  | [.int i] => Q (.int (i.natAbs : Int)) H
  | _ => False
theorem c_abs {X : Cx} : CallR X (.builtin "abs") cAbs := CallR.of call_abs fun xs H Q q => by
  match xs, q with
  | [.int i], q =>
    refine ⟨_, rfl, ?_⟩
    have e : (if i < 0 then -i else i) = (i.natAbs : Int) := by split <;> omega
    rw [e]; exact q
def cMax2 : List V → Hp → VK → Prop := fun xs H Q => match xs with
  | [.int i, .int j] => Q (.int (max i j)) H
  | _ => False
theorem c_max2 {X : Cx} (hc : X.calm = true) : CallR X (.builtin "max") cMax2 := CallR.of (call_max2 hc) fun xs H Q q => by
  match xs, q with
  | [.int i, .int j], q =>
    refine ⟨_, _, rfl, ?_⟩
    have e : (if j > i then j else i) = max i j := by split <;> omega
    rw [e]; exact q
def cMin2 : List V → Hp → VK → Prop := fun xs H Q => match xs with
  | [.int i, .int j] => Q (.int (min i j)) H
  | _ => False
theorem c_min2 {X : Cx} (hc : X.calm = true) : CallR X (.builtin "min") cMin2 := CallR.of (call_min2 hc) fun xs H Q q => by
  match xs, q with
  | [.int i, .int j], q =>
    refine ⟨_, _, rfl, ?_⟩
    have e : (if j < i then j else i) = min i j := by split <;> omega
    rw [e]; exact q
/-- isinstance(x, T), one class -/
structure Isi (K : Frag) (H : Hp) (x : V) (u : Value) (k : Bool → Prop) : Prop where
  ex : (∃ t b, TyX K H x t ∧ PySem.W.kitOne K t u = some b ∧ k b) ∨ (∃ a C dx vs b, x = .ref a ∧ SlX.Slt H a C dx vs ∧ SlX.SCls K C ∧ SlX.SIsi K C ∧ PySem.W.kitOne K (.ref C) u = some b ∧ k b)
theorem Isi.of {K : Frag} {H : Hp} {x : V} {u t : Value} {b : Bool} {k : Bool → Prop} (h : TyX K H x t) (e : PySem.W.kitOne K t u = some b) (q : k b) : Isi K H x u k := ⟨.inl ⟨t, b, h, e, q⟩⟩
def cIsi (K : Frag) : List V → Hp → VK → Prop := fun xs H Q => match xs with
  | [x, .ty n] => Isi K H x (.type n) fun b => Q (.bl b) H
  | [x, .ref C] => Isi K H x (.ref C) fun b => Q (.bl b) H
  | _ => False
theorem c_isi {X : Cx} : CallR X (.builtin "isinstance") (cIsi X.K) := by
  intro pins s σ H xs us Q I r q
  match xs, q with
  | [x, .ty n], ⟨.inl ⟨t, b, h1, h2, q⟩⟩ => exact call_isi pins s σ H _ us Q I r ⟨x, _, t, _, b, rfl, .ty n, h1, h2, q⟩
  | [x, .ref C], ⟨.inl ⟨t, b, h1, h2, q⟩⟩ => exact call_isi pins s σ H _ us Q I r ⟨x, _, t, _, b, rfl, .own C, h1, h2, q⟩
  | [x, .ty n], ⟨.inr ⟨a, C, dx, vs, b, e, h1, h2, h3, h4, q⟩⟩ =>
    subst e
    exact SlX.call_isiSl (.type n) pins s σ H _ us Q I r ⟨a, C, dx, vs, _, b, rfl, rfl, fun w z => z, h1, h2, h3, h4, q⟩
  | [x, .ref D], ⟨.inr ⟨a, C, dx, vs, b, e, h1, h2, h3, h4, q⟩⟩ =>
    subst e
    exact SlX.call_isiSl (.ref D) pins s σ H _ us Q I r ⟨a, C, dx, vs, _, b, rfl, rfl, fun w z => z, h1, h2, h3, h4, q⟩
/-! ### methods of lists -/
/-- a list stands at p -/
structure IsL (K : Frag) (H : Hp) (p : Addr) (q : Prop) : Prop where
  ex : ∃ xs, SqL K H p xs
  q : q
theorem IsL.of {K : Frag} {H : Hp} {p : Addr} {q : Prop} {xs : List V} (h : H p = some (.lst xs)) (q1 : q) : IsL K H p q := ⟨⟨xs, SqL.of h⟩, q1⟩
def dML (K : Frag) (r : V → List V → Hp → VK → Prop) (to : TE) (t : TA) : TE := fun σ H Q => to σ H fun x H1 => match x with
  | .ref l => IsL K H1 l (t σ H1 fun vs H2 => r (.ref l) vs H2 Q)
  | _ => False
theorem pe_ml {X : Cx} {o e : Expr} {es : List Expr} {to : TE} {t : TA} {name : Str} {apos cpos : Pos} {id : String} {r : V → List V → Hp → VK → Prop} (slot : Slot "list" name id) (hty : typeOf (.builtin id) = pure (.type "method_descriptor")) (hm : MtR X id r) (ho : PE X o to) (ha : PA X (e :: es) t)
    (hbase : attributeBase o name X.env (eval o X.env) = eval o X.env := by rfl)
    (hfew : ((backTo cpos (starEach (e :: es) X.env)).all (fun x => !x.1) && (backToKw cpos (keywordEach [] X.env)).all (fun x => x.1.isSome)
      && decide ((e :: es).length + ([] : List Keyword).length + (if ([] : List Keyword).isEmpty then 0 else 1) < 30)) = true := by rfl)
    (hline : (apos.endLine == cpos.line) = true := by rfl) (hs : starEach (e :: es) X.env = (false, eval e X.env) :: starEach es X.env := by rfl) (hplain : (backTo cpos (starEach es X.env)).any (·.1) = false := by rfl) :
    PE X (.Call (.Attribute o name apos) (e :: es) [] cpos) (dML X.K r to t) := by
  refine ⟨fun pins s σ H Q I h => ?_⟩
  refine wpAny_Call_method_late hbase hfew hline rfl (thn (ho.run pins s σ H _ I h) fun v s1 ⟨x, H1, I1, r1, q1⟩ => ?_)
  cases x <;> try exact q1.elim
  obtain ⟨hx, q1⟩ := q1
  obtain ⟨h1, h2⟩ := tyV_is (T := "list") I1 r1 (.inl ⟨rfl, hx⟩)
  refine ⟨"list", id, PySem.F.plainAttrs_list, slot, hty, h1, h2, ?_⟩
  have hA := ha.run cpos pins s1 σ H1 _ I1 q1
  rw [hs] at hA ⊢
  refine Calls.callWith_builtin (by show (false || (backTo cpos (starEach es X.env)).any (·.1)) = false; rw [hplain] <;> rfl) (Calls.evalArgs_plain ?_)
  exact thn hA fun us s2 ⟨vs, H2, I2, r2, q2⟩ => hm pins s2 σ H2 _ vs _ us Q I2 r1 r2 q2
theorem pe_ml0 {X : Cx} {o : Expr} {to : TE} {name : Str} {apos cpos : Pos} {id : String} {r : V → List V → Hp → VK → Prop} (slot : Slot "list" name id) (hty : typeOf (.builtin id) = pure (.type "method_descriptor")) (hm : MtR X id r) (ho : PE X o to)
    (hbase : attributeBase o name X.env (eval o X.env) = eval o X.env := by rfl) (hline : (apos.endLine == cpos.line) = true := by rfl) : PE X (.Call (.Attribute o name apos) [] [] cpos) (dML X.K r to tNil) := by
  refine ⟨fun pins s σ H Q I h => ?_⟩
  refine wpAny_Call_method0_late hbase hline (thn (ho.run pins s σ H _ I h) fun v s1 ⟨x, H1, I1, r1, q1⟩ => ?_)
  cases x <;> try exact q1.elim
  obtain ⟨hx, q1⟩ := q1
  obtain ⟨h1, h2⟩ := tyV_is (T := "list") I1 r1 (.inl ⟨rfl, hx⟩)
  exact ⟨"list", id, PySem.F.plainAttrs_list, slot, hty, h1, h2, Calls.callWith_builtin rfl (PySem.evalArgs_none (hm pins s1 σ H1 _ [] _ [] Q I1 r1 .nil q1))⟩
theorem MtR.of {X : Cx} {id : String} {r r' : V → List V → Hp → VK → Prop} (h : MtR X id r) (i : ∀ x xs H Q, r' x xs H Q → r x xs H Q) : MtR X id r' := fun pins s σ H x xs v us Q I rx rs q => h pins s σ H x xs v us Q I rx rs (i x xs H Q q)
abbrev M2 := V → List V → Hp → VK → Prop
/-- the list at x changed -/
def mL (f : List V → List V → Hp → (V → List V → Prop) → Prop) : M2 := fun x vs H Q => match x with
  | .ref l => Ls H l fun xs => f xs vs H fun z ys => Q z (upd H l (.lst ys))
  | _ => False
def mApp : M2 := mL fun xs vs _ k => match vs with
  | [y] => Need (xs.length < sizeLine) (k .non (xs ++ [y]))
  | _ => False
theorem m_app {X : Cx} : MtR X "list.append" mApp := MtR.of mt_append fun x vs H Q q => by
  cases x <;> try exact q.elim
  match vs, q with
  | [y], ⟨⟨xs, h, ⟨hz, q⟩⟩⟩ => exact ⟨_, xs, y, rfl, rfl, h, hz, q⟩
theorem at_last {xs : List V} {y : V} (h : atI xs (-1) = some y) : xs[xs.length - 1]? = some y := by
  unfold atI ixN at h
  rw [if_neg (by decide)] at h
  by_cases hn : -(xs.length : Int) ≤ -1
  · rw [if_pos hn, Option.bind_some] at h
    have e : (-1 + (xs.length : Int)).toNat = xs.length - 1 := by omega
    rw [e] at h
    exact h
  · rw [if_neg hn] at h
    cases h
def mPop : M2 := mL fun xs vs _ k => match vs with
  | [] => At xs (-1) fun y => k y xs.dropLast
  | _ => False
theorem m_pop {X : Cx} : MtR X "list.pop" mPop := MtR.of mt_pop fun x vs H Q q => by
  cases x <;> try exact q.elim
  match vs, q with
  | [], ⟨⟨xs, h, ⟨y, hy, q⟩⟩⟩ => exact ⟨_, xs, y, rfl, rfl, h, at_last hy, q⟩
def mRev : M2 := mL fun xs vs _ k => match vs with
  | [] => k .non xs.reverse
  | _ => False
theorem m_rev {X : Cx} : MtR X "list.reverse" mRev := MtR.of mt_reverse fun x vs H Q q => by
  cases x <;> try exact q.elim
  match vs, q with
  | [], ⟨⟨xs, h, q⟩⟩ => exact ⟨_, xs, rfl, rfl, h, q⟩
def mIns : M2 := mL fun xs vs _ k => match vs with
  | [.int i, y] => Need (xs.length < sizeLine ∧ 0 ≤ i ∧ i < 2 ^ 63) (k .non (xs.take i.toNat ++ [y] ++ xs.drop i.toNat))
  | _ => False
theorem m_ins {X : Cx} : MtR X "list.insert" mIns := MtR.of mt_insert fun x vs H Q q => by
  cases x <;> try exact q.elim
  match vs, q with
  | [.int i, y], ⟨⟨xs, h, ⟨⟨hz, h0, h1⟩, q⟩⟩⟩ => exact ⟨_, xs, i, y, rfl, rfl, h, hz, h0, h1, q⟩
def mExt : M2 := mL fun xs vs H k => match vs with
  | [.ref b] => Ls H b fun zs => Need (xs.length + zs.length ≤ sizeLine) (k .non (xs ++ zs))
  | _ => False
theorem m_ext {X : Cx} : MtR X "list.extend" mExt := MtR.of mt_extend fun x vs H Q q => by
  cases x <;> try exact q.elim
  match vs, q with
  | [.ref b], ⟨⟨xs, h, ⟨⟨zs, h2, ⟨hz, q⟩⟩⟩⟩⟩ => exact ⟨_, b, xs, zs, rfl, rfl, h, h2, hz, q⟩
/-! ### stores -/
/-- the place i in n -/
structure Pl (n : Nat) (i : Int) (k : Nat → Prop) : Prop where
  ex : ∃ j, ixN n i = some j ∧ k j
theorem Pl.of {n : Nat} {i : Int} {k : Nat → Prop} {j : Nat} (h : ixN n i = some j) (q : k j) : Pl n i k := ⟨j, h, q⟩
def oSet : V → V → V → Hp → (Hp → Prop) → Prop := fun o i v H Q => match o, i with
  | .ref p, .int k => Ls H p fun xs => Pl xs.length k fun j => Q (upd H p (.lst (xs.set j v)))
  | _, _ => False
theorem s_list {X : Cx} : PSet X oSet := fun pins s σ H o i v uo ui uv Q I ro ri rv q => by
  cases o <;> cases i <;> try exact q.elim
  obtain ⟨⟨xs, h, ⟨j, e, q⟩⟩⟩ := q
  exact set_list pins s σ H _ _ v uo ui uv Q I ro ri rv ⟨_, xs, _, j, rfl, rfl, h, e, q⟩
/-! ### loops over a list or a tuple -/
/-- the list or the tuple at a is walked -/
structure Walk (K : Frag) (H : Hp) (a : Addr) (R : It → Hp → Prop) : Prop where
  ex : ((∃ xs, SqL K H a xs) ∧ R (Itl K a) H) ∨ ((∃ xs, SqT K H a xs) ∧ R (Itt K a) H)
def iSm (K : Frag) (x : V) (H : Hp) (R : It → Hp → Prop) : Prop := match x with
  | .ref a => Walk K H a R
  | _ => False
def iSeq (K : Frag) (tl : TE) : TI := fun σ H R => tl σ H fun x H1 => iSm K x H1 R
theorem pi_seq {X : Cx} {tg l : Expr} {tl : TE} (hl : PE X l tl) : PI X tg l (iSeq X.K tl) := by
  refine ⟨fun pins s σ H R I h => ?_⟩
  refine thn (hl.run pins s σ H _ I h) fun v s1 ⟨x, H1, I1, r1, q1⟩ => ?_
  cases x <;> try exact q1.elim
  cases r1
  rcases q1.ex with ⟨⟨xs, hq⟩, q⟩ | ⟨⟨xs, hq⟩, q⟩
  · obtain ⟨its, rv, p, hz⟩ := I1.list hq
    refine wpAny_pyIter_list p.isList ?_
    refine ⟨s1.heap.objs.size, [s1.heap.objs.size], _, _, H1, rfl, I1.kept (t' := s1.toks) fun b o e => Heap.get?_push_of_some _ e, turn_list _ _, ⟨_, Heap.get?_push_size _ rfl, rfl, rfl⟩, fun b hb => ?_, q⟩
    have e : b = s1.heap.objs.size := by simpa using hb
    subst e
    exact I1.fpOk (Nat.le_refl _) (I1.hok.fresh (Nat.le_refl _))
  · obtain ⟨its, rv, p, hz⟩ := I1.tuple hq
    refine wpAny_pyIter_tuple (show s1.heap.IsTuple _ its.toArray from p) ?_
    refine ⟨s1.heap.objs.size, [s1.heap.objs.size], _, _, H1, rfl, I1.kept (t' := s1.toks) fun b o e => Heap.get?_push_of_some _ e, turn_tuple _ _, ⟨_, Heap.get?_push_size _ rfl, rfl, rfl⟩, fun b hb => ?_, q⟩
    have e : b = s1.heap.objs.size := by simpa using hb
    subst e
    exact I1.fpOk (Nat.le_refl _) (I1.hok.fresh (Nat.le_refl _))
/-- what a loop asks of its walk -/
def LoopR (D : Ends) (g : TG) (tb : TS) (σ : L2.St) : It → Hp → Prop := fun J H1 => ∃ W : Nat → Nat → L2.St → Hp → Prop, (∃ m, W 0 m σ H1) ∧ ∀ i m σ H, W i m σ H →
  (J.stop i H ∧ D.nx σ H) ∨ (J.go i H ∧ ∃ N : L2.St → Hp → Prop, (∀ σ' H', N σ' H' → ∃ m', m' < m ∧ W (i + 1) m' σ' H') ∧ ∀ x H', J.yld i H x H' → g x σ H' fun σ2 H2 => tb { D with nx := N, ct := N, bk := D.nx } σ2 H2)
def dFor (wi : TI) (g : TG) (tb : TS) : TS := fun D σ H => wi σ H (LoopR D g tb σ)
theorem ps_for {X : Cx} {tg iter : Expr} {body : List Stmt} {wi : TI} {g : TG} {tb : TS} {pos : Pos} (hp : PassesOwn (model X.prog X.w) X.A X.env X.xe) (hc : X.calm = true) (hi : PI X tg iter wi) (hg : PG X tg g) (hb : PSs X body tb)
    (hs : ∀ x, foldedSetIterable iter X.env x = pure x := by intro _; rfl) : PS X (.For tg iter body [] pos) (dFor wi g tb) := L2.ps_for hp hc hi hg hb hs
/-- the sequence at p stands as it stood -/
def Stay (K : Frag) (p : Addr) (H H' : Hp) : Prop := ∀ xs, (SqL K H p xs → SqL K H' p xs) ∧ (SqT K H p xs → SqT K H' p xs)
theorem Same.tup {K : Frag} {H H' : Hp} {a : Addr} {xs : List V} (e : Same H H') (h : SqT K H a xs) : SqT K H' a xs := by
  rcases h with (h | ⟨o, h⟩) | h
  · exact .inl (.inl (e _ _ h))
  · exact .inl (.inr ⟨o, e _ _ h⟩)
  · exact .inr h
theorem Same.sqa {K : Frag} {H H' : Hp} {a : Addr} {xs : List V} (e : Same H H') (h : SqA K H a xs) : SqA K H' a xs := h.imp e.seq (Same.tup e)
theorem Same.stay {K : Frag} {H H' : Hp} {a : Addr} (e : Same H H') : Stay K a H H' := fun _ => ⟨e.seq, Same.tup e⟩
/-- all but what stands at st stays -/
def SameX (st : Addr) (H H' : Hp) : Prop := ∀ b o, H b = some o → b ≠ st → H' b = some o
theorem SameX.refl (st : Addr) (H : Hp) : SameX st H H := fun _ _ h _ => h
theorem SameX.trans {st : Addr} {H H1 H2 : Hp} (a : SameX st H H1) (b : SameX st H1 H2) : SameX st H H2 := fun c o h n => b c o (a c o h n) n
theorem SameX.then {st : Addr} {H H1 H2 : Hp} (a : SameX st H H1) (b : Same H1 H2) : SameX st H H2 := fun c o h n => b c o (a c o h n)
theorem Same.thenX {st : Addr} {H H1 H2 : Hp} (a : Same H H1) (b : SameX st H1 H2) : SameX st H H2 := fun c o h n => b c o (a c o h) n
theorem Same.x {st : Addr} {H H1 : Hp} (a : Same H H1) : SameX st H H1 := fun c o h _ => a c o h
theorem SameX.upd {st : Addr} {H : Hp} {o : HO} : SameX st H (upd H st o) := fun b u h n => by rw [upd_ne n]; exact h
/-- what st was made behind H0 -/
theorem SameX.same {st : Addr} {H0 H H' : Hp} (a : Same H0 H) (b : SameX st H H') (n : H0 st = none) : Same H0 H' := fun c o h => b c o (a c o h) (ne_of_none h n)
theorem SameX.seq {K : Frag} {st : Addr} {H H' : Hp} {a : Addr} {xs : List V} (e : SameX st H H') (h : SqL K H a xs) (n : a ≠ st) : SqL K H' a xs := by
  rcases h with (h | ⟨o, h⟩) | h
  · exact .inl (.inl (e _ _ h n))
  · exact .inl (.inr ⟨o, e _ _ h n⟩)
  · exact .inr h
theorem SameX.tup {K : Frag} {st : Addr} {H H' : Hp} {a : Addr} {xs ys : List V} (e : SameX st H H') (h : SqT K H a xs) (hst : H st = some (.lst ys)) : SqT K H' a xs := by
  rcases h with (h | ⟨o, h⟩) | h
  · exact .inl (.inl (e _ _ h (ne_of h hst (by intro z; cases z))))
  · exact .inl (.inr ⟨o, e _ _ h (ne_of h hst (by intro z; cases z))⟩)
  · exact .inr h
theorem sl_upd {K : Frag} {H : Hp} {a p : Addr} {o : HO} {xs : List V} (h : SqL K H a xs) (n : a ≠ p) : SqL K (upd H p o) a xs := by
  rcases h with (h | ⟨u, h⟩) | h
  · exact .inl (.inl (by rw [upd_ne n]; exact h))
  · exact .inl (.inr ⟨u, by rw [upd_ne n]; exact h⟩)
  · exact .inr h
theorem st_upd {K : Frag} {H : Hp} {a p : Addr} {o : HO} {xs : List V} (h : SqT K H a xs) (n : a ≠ p) : SqT K (upd H p o) a xs := by
  rcases h with (h | ⟨u, h⟩) | h
  · exact .inl (.inl (by rw [upd_ne n]; exact h))
  · exact .inl (.inr ⟨u, by rw [upd_ne n]; exact h⟩)
  · exact .inr h
theorem up_of {H : Hp} {a p : Addr} {o u : HO} (n : a ≠ p) (h : H a = some u) : upd H p o a = some u := by rw [upd_ne n]; exact h
theorem SameX.put {st : Addr} {H0 H1 : Hp} {o : HO} (e : SameX st H0 H1) : SameX st H0 (L2.upd H1 st o) := e.trans SameX.upd
theorem appS {K : Frag} {H H1 : Hp} {a st : Addr} {xs : List V} (h : ∀ H1, SameX st H H1 → SqL K H1 a xs) (e : SameX st H H1) : SqL K H1 a xs := h H1 e
/-- over a list or a tuple that the body leaves as it is -/
theorem for_seq {K : Frag} {p : Addr} {xs : List V} {g : TG} {tb : TS} {D : Ends} {σ : L2.St} {H : Hp} (Pv : Nat → L2.St → Hp → Prop) (hx : SqA K H p xs) (h0 : Pv 0 σ H) (hl : ∀ i σ H', i ≤ xs.length → Pv i σ H' → Stay K p H H')
    (hs : ∀ i x σ H, xs[i]? = some x → Pv i σ H → g x σ H fun σ2 H2 => tb { D with nx := Pv (i + 1), ct := Pv (i + 1), bk := D.nx } σ2 H2) (hd : ∀ σ H, Pv xs.length σ H → D.nx σ H) :
    Walk K H p (LoopR D g tb σ) := by
  rcases hx with hx | hx
  · exact ⟨.inl ⟨⟨xs, hx⟩, for_list Pv h0 (fun i σ H' hi q => (hl i σ H' hi q xs).1 hx) hs hd⟩⟩
  · exact ⟨.inr ⟨⟨xs, hx⟩, for_tup Pv h0 (fun i σ H' hi q => (hl i σ H' hi q xs).2 hx) hs hd⟩⟩
/-! ### ranges -/
def iR1 (vs : List V) (H : Hp) (R : It → Hp → Prop) : Prop := match vs with
  | [.int j] => Need (-(2 ^ 62) ≤ j ∧ j < 2 ^ 62) (R (Itr 0 j.toNat) H)
  | _ => False
def iRng (ta : TA) : TI := fun σ H R => ta σ H fun vs H1 => iR1 vs H1 R
theorem pi_rng {X : Cx} {tg a : Expr} {ta : TA} {p pos : Pos} (hg : Gl X "range") (hm : X.mg "range" = none) (ha : PA X [a] ta) (hs : starEach [a] X.env = [(false, eval a X.env)] := by rfl) : PI X tg (.Call (.Name "range" p) [a] [] pos) (iRng ta) := by
  refine ⟨fun pins s σ H R I h => ?_⟩
  refine Call_ (ld_blt I hg hm boot_range (PyProof.Rows.callWith_type1 (thn (ha.run pos pins s σ H _ I h) fun us s1 ⟨vs, H1, I1, r1, q1⟩ => ?_) hs rfl))
  match vs, q1 with
  | [.int j], ⟨⟨q1, q2⟩, q⟩ =>
    cases r1 with
    | cons r rr =>
      cases rr
      obtain ⟨t, rfl⟩ := r
      exact call_range_1 (range_it I1 (by omega) (by omega) q1 q2 (by simpa using q))
def iR2 (vs : List V) (H : Hp) (R : It → Hp → Prop) : Prop := match vs with
  | [.int i, .int j] => Need (-(2 ^ 62) ≤ i ∧ i < 2 ^ 62 ∧ -(2 ^ 62) ≤ j ∧ j < 2 ^ 62) (R (Itr i (j - i).toNat) H)
  | _ => False
def iRngB (ta : TA) : TI := fun σ H R => ta σ H fun vs H1 => iR2 vs H1 R
theorem pi_rngB {X : Cx} {tg a b : Expr} {ta : TA} {p pos : Pos} (hg : Gl X "range") (hm : X.mg "range" = none) (ha : PA X [a, b] ta) (hs : starEach [a, b] X.env = [(false, eval a X.env), (false, eval b X.env)] := by rfl) (hs2 : starEach [b] X.env = [(false, eval b X.env)] := by rfl) :
    PI X tg (.Call (.Name "range" p) [a, b] [] pos) (iRngB ta) := by
  refine ⟨fun pins s σ H R I h => ?_⟩
  refine Call_ (ld_blt I hg hm boot_range (PyProof.Rows.callWith_type1 (thn (ha.run pos pins s σ H _ I h) fun us s1 ⟨vs, H1, I1, r1, q1⟩ => ?_) (by rw [hs, hs2]) (by rw [hs2]; rfl)))
  match vs, q1 with
  | [.int i, .int j], ⟨⟨q1, q2, q3, q4⟩, q⟩ =>
    cases r1 with
    | cons r rr =>
      cases rr with
      | cons r' rr =>
        cases rr
        obtain ⟨t, rfl⟩ := r
        obtain ⟨t', rfl⟩ := r'
        exact call_range_2 (range_it I1 q1 q2 q3 q4 q)
theorem for_rngB {a b : Int} {g : TG} {tb : TS} {D : Ends} {σ : L2.St} {H : Hp} (Pv : Nat → L2.St → Hp → Prop) (h0 : Pv 0 σ H)
    (hs : ∀ (i : Nat) σ H, a + (i : Int) < b → Pv i σ H → g (.int (a + i)) σ H fun σ2 H2 => tb { D with nx := Pv (i + 1), ct := Pv (i + 1), bk := D.nx } σ2 H2) (hd : ∀ σ H, Pv (b - a).toNat σ H → D.nx σ H) :
    LoopR D g tb σ (Itr a (b - a).toNat) H := L2.for_range (lo := a) Pv h0 (fun i σ H hi q => hs i σ H (by omega) q) hd
theorem for_rng {n : Int} {g : TG} {tb : TS} {D : Ends} {σ : L2.St} {H : Hp} (Pv : Nat → L2.St → Hp → Prop) (h0 : Pv 0 σ H)
    (hs : ∀ (i : Nat) σ H, (i : Int) < n → Pv i σ H → g (.int i) σ H fun σ2 H2 => tb { D with nx := Pv (i + 1), ct := Pv (i + 1), bk := D.nx } σ2 H2) (hd : ∀ σ H, Pv n.toNat σ H → D.nx σ H) :
    LoopR D g tb σ (Itr 0 n.toNat) H := by
  refine L2.for_range (lo := 0) Pv h0 (fun i σ H hi q => ?_) hd
  have z := hs i σ H (by omega) q
  rw [Int.zero_add]; exact z
/-! ### while -/
def WhileR (c : TT) (tb : TS) (D : Ends) (σ : L2.St) (H : Hp) : Prop := ∃ W : Nat → L2.St → Hp → Prop, (∃ m, W m σ H) ∧ ∀ m σ H, W m σ H →
  c σ H fun b H1 => bIf b (tb { D with nx := fun σ' H' => ∃ m', m' < m ∧ W m' σ' H', ct := fun σ' H' => ∃ m', m' < m ∧ W m' σ' H', bk := D.nx } σ H1) (D.nx σ H1)
structure Loop (c : TT) (tb : TS) (D : Ends) (σ : L2.St) (H : Hp) : Prop where
  ex : WhileR c tb D σ H
def dWhile (c : TT) (tb : TS) : TS := fun D σ H => Loop c tb D σ H
theorem ps_while {X : Cx} {c : Expr} {body : List Stmt} {tc : TT} {tb : TS} {pos : Pos} (hp : PassesOwn (model X.prog X.w) X.A X.env X.xe) (hc : PT X c tc) (hb : PSs X body tb) : PS X (.While c body [] pos) (dWhile tc tb) := by
  refine ⟨fun pins s σ H D I h => ?_⟩
  obtain ⟨⟨W, ⟨m0, w0⟩, turn⟩⟩ := h
  refine wpAny_While (codeAny_whileLoop (fun n s' => ∃ σ' H', Inv X pins σ' H' s' ∧ W n σ' H') ?_ m0 ⟨σ, H, I, w0⟩)
  rintro n s1 ⟨σ1, H1, I1, w1⟩
  refine wpAny_passesOwn hp (thn (hc.run pins s1 σ1 H1 _ I1 (turn n σ1 H1 w1)) fun b s2 ⟨H2, I2, q2⟩ => ?_)
  cases b with
  | true =>
    rw [if_pos rfl]
    refine wpAny_passesOwn hp (thn (hb.run pins s2 σ1 H2 _ I2 q2) fun f s3 q3 => ?_)
    cases f with
    | next =>
      obtain ⟨σ3, H3, I3, m', hm, w3⟩ := q3
      exact ⟨m', hm, σ3, H3, I3, w3⟩
    | cont =>
      obtain ⟨σ3, H3, I3, m', hm, w3⟩ := q3
      exact ⟨m', hm, σ3, H3, I3, w3⟩
    | brk => exact q3
    | ret v => exact q3
  | false =>
    rw [if_neg Bool.false_ne_true]
    exact wpAny_execs_nil ⟨σ1, H2, I2, q2⟩
/-! ### calls of the module's defs, by positional promises -/
/-- f(e, ..): what is raised is wished for at the caller's slots -/
def dCall (sp : Sp) (E : L2.St → XK) (t : TA) : TE := fun σ H Q => t σ H fun vs H1 => sp vs H1 Q (E σ)
section
variable {X : Cx} {k : Nat} {g : Addr} {sp : Sp} {E : L2.St → XK} {x : Str} {p pos : Pos} {e : Expr} {es : List Expr} {t : TA}
theorem run_R {pins : List (Addr × Obj)} {σ : L2.St} {H : Hp} {s : Shared} {Q : VK} {us : List Value} {vs : List V} (F : FnR X.prog X.w X.K X.mg X.base (L2.CX X.prog X.w) k g sp) (hr : Room k X.A) (hx : PassesAt (L2.CX X.prog X.w) X σ (E σ))
    (I : Inv X pins σ H s) (r : Vals vs us) (h : sp vs H Q (E σ)) : wpAny (model X.prog X.w) X.A (call (.ref g) us) (EP X pins σ Q) X.xe s := by
  refine wpAny_call (codeAny_mono (F X.A X.stack s H us vs Q (E σ) hr I.env0 r h) fun r s' hq => ?_)
  cases r with
  | error e => exact hx pins H s e s' I hq
  | ok fl =>
    cases fl with
    | ret u => exact I.after hq
    | next => exact False.elim hq
    | brk => exact False.elim hq
    | cont => exact False.elim hq
theorem pe_call (F : FnR X.prog X.w X.K X.mg X.base (L2.CX X.prog X.w) k g sp) (hr : Room k X.A) (hm : X.mg x = some (.ref g)) (hk : PySem.W.keepIn X.K (.ref g) = true) (hx : ∀ σ, PassesAt (L2.CX X.prog X.w) X σ (E σ))
    (ha : PA X (e :: es) t) (hg : Gl X x := by rfl) (hdb : (x == ("__debug__" : Str)) = false := by decide) (he : starEach (e :: es) X.env = (false, eval e X.env) :: starEach es X.env := by rfl) (hpl : (backTo pos (starEach es X.env)).any (·.1) = false := by rfl) :
    PE X (.Call (.Name x p) (e :: es) [] pos) (dCall sp E t) := by
  refine ⟨fun pins s σ H Q I h => ?_⟩
  refine wpAny_Call_Name_kw (ld_glob I hg hm ?_ hdb)
  refine PySem.W.callWith_K (h₀ := X.base) I.ok.mod.kin hk (thn (ha.run pos pins s σ H _ I h) fun us s1 ⟨vs, H1, I1, r, q⟩ => ⟨I1.kIn, ?_⟩) he hpl
  exact run_R F hr (hx σ) I1 r q
end
/-- f(e, ..), f a built-in function | type -/
theorem pe_cb {X : Cx} {x : Str} {p pos : Pos} {e : Expr} {es : List Expr} {t : TA} {id : String} {r : List V → Hp → VK → Prop} (hc : CallR X (.builtin id) r) (hm : X.mg x = none) (hv : bootBuiltins x = some (.builtin id)) (ha : PA X (e :: es) t) (hg : Gl X x := by rfl) (hn : x ≠ "__name__" := by decide) (hdb : (x == ("__debug__" : Str)) = false := by decide)
    (he : starEach (e :: es) X.env = (false, eval e X.env) :: starEach es X.env := by rfl) (hpl : (backTo pos (starEach es X.env)).any (·.1) = false := by rfl) : PE X (.Call (.Name x p) (e :: es) [] pos) (tCB r t) := pe_callB hc hg hm hv ha hn hdb he hpl
theorem pe_ct {X : Cx} {x : Str} {p pos : Pos} {e : Expr} {es : List Expr} {t : TA} {T : String} {r : List V → Hp → VK → Prop} (hc : CallR X (.type T) r) (hm : X.mg x = none) (hv : bootBuiltins x = some (.type T)) (ha : PA X (e :: es) t) (hg : Gl X x := by rfl) (hn : x ≠ "__name__" := by decide) (hdb : (x == ("__debug__" : Str)) = false := by decide)
    (he : starEach (e :: es) X.env = (false, eval e X.env) :: starEach es X.env := by rfl) (hpl : (backTo pos (starEach es X.env)).any (·.1) = false := by rfl) : PE X (.Call (.Name x p) (e :: es) [] pos) (tCB r t) := pe_callTy hc hg hm hv ha hn hdb he hpl
/-- a built-in's name as a value -/
theorem pe_bt {X : Cx} {x : Str} {n : String} {pos : Pos} (hm : X.mg x = none) (hv : bootBuiltins x = some (.type n)) (hg : Gl X x := by rfl) (hn : x ≠ "__name__" := by decide) (hd : (x == ("__debug__" : Str)) = false := by decide) : PE X (.Name x pos) (tC (.ty n)) := pe_bltn hg hm hv rfl hn hd
/-! ### a def by its body -/
section
variable {P : Program} {w : World} {K : Frag} {mg : Str → Option Value} {base : Heap}
abbrev FR (P : Program) (w : World) (K : Frag) (mg : Str → Option Value) (base : Heap) (k : Nat) (f : Addr) (sp : Sp) : Prop := FnR P w K mg base (L2.CX P w) k f sp
/-- the context of a def's body -/
abbrev cxD (P : Program) (w : World) (K : Frag) (mg : Str → Option Value) (base : Heap) (N : List Str) (qual : Str) (scope : Scope) (f : Addr) (cd : Value) (A : Around) (outer : List Env) (s : Shared) (H : Hp) (E : XK) : Cx := cxOf (L2.CX P w) P w K mg base N qual scope f cd A outer s H E
theorem mk_fn {x qual : Str} {params : Arguments} {body : List Stmt} {scope : Scope} {f : Addr} {fd : FuncData} {N ps : List Str} {k : Nat} {sp : Sp} (F : FunD K x qual params body scope [] [] f fd) (S : FnScope N ps scope) (len : ∀ vs H Q E, sp vs H Q E → vs.length = ps.length)
    (hb : ∀ (kV doc pm : Value) (an : Option Addr) (cdv ct : Value) (us : List Value), us.length = ps.length → bindArgs (PySem.W.fnOf x qual params body scope .none kV doc pm an cdv ct) ⟨us, []⟩ = pure (ps.zip us)) {t : XK → TS}
    (hbody : ∀ (cdv : Value) (A : Around) (outer : List Env) (s : Shared) (H : Hp) (E : XK), Room k (A.deeper (envOfC qual scope s.heap.objs.size f cdv)) →
      PSs (cxD P w K mg base N qual scope f cdv A outer s H E) body (t E))
    (pure : ∀ vs H Q E, sp vs H Q E → t E { nx := fun _ H' => Q .non H', rt := Q } (start N vs) H) : FR P w K mg base (k + 1) f sp := by
  have z := (FunD.ok (P := P) (w := w) (mg := mg) (base := base) (CX := L2.CX P w) (sp := sp) F S len fun cdv A outer s H vs Q E hr h => ⟨t E, hbody cdv A outer s H E hr, pure vs H Q E h⟩).raw (F.bindsN hb) .nil
  intro A outer s H us vs Q E hr e0 r hs
  exact z A outer s H us vs Q E hr e0 r (by show sp (vs ++ []) H Q E; rw [List.append_nil]; exact hs)
end
/-- the wish of a def's body: what leaves it leaves the def -/
abbrev EW (E : XK) : L2.St → XK := fun _ => E
theorem passD {P : Program} {w : World} {K : Frag} {mg : Str → Option Value} {base : Heap} {N : List Str} {qual : Str} {scope : Scope} {f : Addr} {cd : Value} {A : Around} {outer : List Env} {s : Shared} {H : Hp} {E : XK} :
    ∀ σ, PassesAt (L2.CX P w) (cxD P w K mg base N qual scope f cd A outer s H E) σ (EW E σ) := fun σ => passAt (takes_of rfl rfl rfl rfl) σ
theorem ownD {P : Program} {w : World} {K : Frag} {mg : Str → Option Value} {base : Heap} {N : List Str} {qual : Str} {scope : Scope} {f : Addr} {cd : Value} {A : Around} {outer : List Env} {s : Shared} {H : Hp} {E : XK} :
    PassesOwn (model P w) (cxD P w K mg base N qual scope f cd A outer s H E).A (cxD P w K mg base N qual scope f cd A outer s H E).env (cxD P w K mg base N qual scope f cd A outer s H E).xe := passes_of rfl
/-! ### named rests: the walk stops there -/
structure Stop (t : TS) (D : Ends) (σ : L2.St) (H : Hp) : Prop where
  go : t D σ H
def stop (t : TS) : TS := fun D σ H => Stop t D σ H
theorem pss_stop {X : Cx} {st : List Stmt} {t : TS} (h : PSs X st t) : PSs X st (stop t) := ⟨fun pins s σ H D I q => h.run pins s σ H D I q.go⟩
/-! ### the law's own def: nothing leaves it -/
theorem passL0 {X : Cx} : ∀ σ, PassesAt (L2.CX X.prog X.w) X σ (EW E0 σ) := fun _ _ _ _ _ _ _ h => by
  obtain ⟨_, _, _, _, _, _, _, _, _, _, _, _, z⟩ := h
  exact z.elim
theorem mk_law {P : Program} {w : World} {K : Frag} {mg : Str → Option Value} {base : Heap} {x qual : Str} {params : Arguments} {body : List Stmt} {scope : Scope} {f : Addr} {fd : FuncData} {N ps : List Str} {k : Nat} {sp : Sp} (F : FunD K x qual params body scope [] [] f fd) (S : FnScope N ps scope) (len : ∀ vs H Q E, sp vs H Q E → vs.length = ps.length)
    {t : XK → TS} (hbody : ∀ (cdv : Value) (A : Around) (outer : List Env) (s : Shared) (H : Hp) (E : XK), Room k (A.deeper (envOfC qual scope s.heap.objs.size f cdv)) →
      PSs (cxOf CX0 P w K mg base N qual scope f cdv A outer s H E).nox body (t E0))
    (pure : ∀ vs H Q E, sp vs H Q E → t E0 { nx := fun _ H' => Q .non H', rt := Q } (start N vs) H) : FnOk P w K mg base CX0 (k + 1) f fd ps sp :=
  FunD.ok F S len fun cdv A outer s H vs Q E hr h => ⟨t E0, PSs.nox (hbody cdv A outer s H E hr), pure vs H Q E h⟩
/-! ### comprehensions with one for -/
structure Wr (R : It → Hp → Prop) (J : It) (H : Hp) : Prop where
  go : R J H
theorem pi_wr {X : Cx} {tg iter : Expr} {wi : TI} (h : PI X tg iter wi) : PI X tg iter (fun σ H R => wi σ H (Wr R)) := ⟨fun pins s σ H R I q =>
  thn (h.run pins s σ H (Wr R) I q) fun _ _ z => thn z fun _ _ ⟨it, fp, tn, J, H', e, I', T, t0, f, r⟩ => ⟨it, fp, tn, J, H', e, I', T, t0, f, r.go⟩⟩
def LcGo (g : TG) (tt : TT) (te : TE) (vs : List Nat) (σ : L2.St) (Q : VK) (J : It) (H1 : Hp) : Prop :=
  ∀ D, H1 D = none → ∃ W : Nat → Nat → Hp → Prop, (∃ m, W 0 m (upd H1 D (.lst []))) ∧ ∀ i m H, W i m H →
    (J.stop i H ∧ Q (.ref D) H) ∨ (J.go i H ∧ ∃ Nx : Hp → Prop, (∀ H', Nx H' → ∃ m', m' < m ∧ W (i + 1) m' H') ∧ ∀ x H', J.yld i H x H' → g x (wipe σ vs) H' fun σ2 H2 => wipe σ2 vs = wipe σ vs ∧ tt σ2 H2 fun b H3 =>
      if b = true then te σ2 H3 fun y H4 => ∃ acc, H4 D = some (.lst acc) ∧ acc.length < sizeLine ∧ Nx (upd H4 D (.lst (acc ++ [y]))) else Nx H3)
def dLc (wi : TI) (g : TG) (tt : TT) (te : TE) (vs : List Nat) : TE := fun σ H Q => wi σ H (Wr (LcGo g tt te vs σ Q))
theorem pe_lc {X : Cx} {elt tg iter : Expr} {ifs : List Expr} {scope : Scope} {own : List (Str × Nat)} {pos : Pos} {wi : TI} {g : TG} {tt : TT} {te : TE} (hc : X.calm = true) (hN : X.N.Nodup) (hi : PI X tg iter wi) (ok : BlkOk X.N X.env.scope scope own)
    (hg : ∀ (s : Shared) (H : Hp) (C : Addr) (cl : List (Str × Addr)) (fp : List Addr), PG (X.blk s H scope (compEnvC scope cl C X.env) fp) tg g) (ht : ∀ (s : Shared) (H : Hp) (C : Addr) (cl : List (Str × Addr)) (fp : List Addr), PTs (X.blk s H scope (compEnvC scope cl C X.env) fp) ifs tt)
    (he : ∀ (s : Shared) (H : Hp) (C : Addr) (cl : List (Str × Addr)) (fp : List Addr), PE (X.blk s H scope (compEnvC scope cl C X.env) fp) elt te) (hs : ∀ x, foldedSetIterable iter X.env x = pure x := by intro _; rfl) :
    PE X (.ListComp elt [⟨tg, iter, ifs, 0⟩] scope pos) (dLc wi g tt te (own.map (·.2))) := L2.pe_lc hc hN (pi_wr hi) ok hg ht he hs
theorem ps_setLc {X : Cx} {i : Nat} {y : Str} {py : Pos} {elt tg iter : Expr} {ifs : List Expr} {scope : Scope} {own : List (Str × Nat)} {pos spos : Pos} {wi : TI} {g : TG} {tt : TT} {te : TE} (hc : X.calm = true) (hN : X.N.Nodup) (hy : X.N[i]? = some y) (hyl : X.env.scope.names.lookup y = some .local)
    (hsw : swapsWith (.ListComp elt [⟨tg, iter, ifs, 0⟩] scope pos) (some (.Name y py)) spos.line X.env = pure true) (hi : PI X tg iter wi) (ok : BlkOk X.N X.env.scope scope own)
    (hg : ∀ (s : Shared) (H : Hp) (C : Addr) (cl : List (Str × Addr)) (fp : List Addr), PG (X.blk s H scope (compEnvC scope cl C X.env) fp) tg g) (ht : ∀ (s : Shared) (H : Hp) (C : Addr) (cl : List (Str × Addr)) (fp : List Addr), PTs (X.blk s H scope (compEnvC scope cl C X.env) fp) ifs tt)
    (he : ∀ (s : Shared) (H : Hp) (C : Addr) (cl : List (Str × Addr)) (fp : List Addr), PE (X.blk s H scope (compEnvC scope cl C X.env) fp) elt te) (hs : ∀ x, foldedSetIterable iter X.env x = pure x := by intro _; rfl) :
    PS X (.Assign [.Name y py] (.ListComp elt [⟨tg, iter, ifs, 0⟩] scope pos) spos) (tAsg (dLc wi g tt te (own.map (·.2))) (gName i)) := L2.ps_setLc hc hN hy hyl hsw (pi_wr hi) ok hg ht he hs
theorem ifc {c : Prop} [Decidable c] {A B : Prop} (h1 : c → A) (h2 : ¬ c → B) : if decide c = true then A else B := by
  by_cases h : c
  · rw [decide_eq_true h]; exact iteT (h1 h)
  · rw [decide_eq_false h]; exact iteF (h2 h)
/-- over a list or a tuple, by a word over (turn, heap): the new list stands at D -/
theorem lc_seq {K : Frag} {p : Addr} {xs : List V} {g : TG} {tt : TT} {te : TE} {vs : List Nat} {σ : L2.St} {H1 : Hp} {Q : VK} (hx : SqA K H1 p xs)
    (h : ∀ D, H1 D = none → ∃ Pv : Nat → Hp → Prop, Pv 0 (upd H1 D (.lst [])) ∧ (∀ i H, i ≤ xs.length → Pv i H → ∀ ys, (SqL K H1 p ys → SqL K H p ys) ∧ (SqT K H1 p ys → SqT K H p ys)) ∧
      (∀ i x H, xs[i]? = some x → Pv i H → g x (wipe σ vs) H fun σ2 H2 => wipe σ2 vs = wipe σ vs ∧ tt σ2 H2 fun b H3 =>
        if b = true then te σ2 H3 fun y H4 => ∃ acc, H4 D = some (.lst acc) ∧ acc.length < sizeLine ∧ Pv (i + 1) (upd H4 D (.lst (acc ++ [y]))) else Pv (i + 1) H3) ∧ (∀ H, Pv xs.length H → Q (.ref D) H)) :
    Walk K H1 p (Wr (LcGo g tt te vs σ Q)) := by
  rcases hx with hx | hx
  · refine ⟨.inl ⟨⟨xs, hx⟩, ⟨fun D hD => ?_⟩⟩⟩
    obtain ⟨Pv, h0, hl, hs, hd⟩ := h D hD
    exact lc_list (Qd := fun H => Q (.ref D) H) Pv h0 (fun i H hi q => (hl i H hi q xs).1 hx) hs hd
  · refine ⟨.inr ⟨⟨xs, hx⟩, ⟨fun D hD => ?_⟩⟩⟩
    obtain ⟨Pv, h0, hl, hs, hd⟩ := h D hD
    exact lc_tup (Qd := fun H => Q (.ref D) H) Pv h0 (fun i H hi q => (hl i H hi q xs).2 hx) hs hd
/-- all but lists stays (dicts too) -/
def SameI (H H' : Hp) : Prop := ∀ b o, H b = some o → (∀ l, o ≠ .lst l) → H' b = some o
theorem Same.i {H H' : Hp} (e : Same H H') : SameI H H' := fun b o h _ => e b o h
theorem SameI.trans {H H1 H2 : Hp} (a : SameI H H1) (b : SameI H1 H2) : SameI H H2 := fun c o h n => b c o (a c o h n) n
theorem SameI.lst {H : Hp} {p : Addr} {xs ys : List V} (h : H p = some (.lst xs)) : SameI H (L2.upd H p (.lst ys)) := fun b o hb n => by
  by_cases e : b = p
  · subst e; rw [h] at hb; exact absurd (Option.some.inj hb).symm (n xs)
  · rw [upd_ne e]; exact hb
theorem SameX.i {st : Addr} {H H' : Hp} {xs : List V} (e : SameX st H H') (h : H st = some (.lst xs)) : SameI H H' := fun b o hb n => e b o hb fun z => by
  subst z; rw [h] at hb; exact n xs (Option.some.inj hb).symm
theorem SameI.tup {K : Frag} {H H' : Hp} {a : Addr} {xs : List V} (e : SameI H H') (h : SqT K H a xs) : SqT K H' a xs := by
  rcases h with (h | ⟨o, h⟩) | h
  · exact .inl (.inl (e _ _ h fun _ z => by cases z))
  · exact .inl (.inr ⟨o, e _ _ h fun _ z => by cases z⟩)
  · exact .inr h
theorem take_filter {xs : List V} {pr : V → Bool} {i : Nat} {x : V} (h : xs[i]? = some x) : (xs.take (i + 1)).filter pr = (xs.take i).filter pr ++ (if pr x = true then [x] else []) := by
  rw [List.take_succ, h, List.filter_append]
  congr 1
  show [x].filter pr = _
  by_cases e : pr x = true <;> simp [e]
/-- .. whose test is told by a function of the item, its elements by a relation -/
theorem lc_rel {K : Frag} {p : Addr} {xs : List V} {g : TG} {tt : TT} {te : TE} {vs : List Nat} {σ : L2.St} {H1 : Hp} {Q : VK} (R : V → V → Hp → Prop) (pr : V → Bool) (hx : SqA K H1 p xs) (hz : xs.length < sizeLine) (mono : ∀ x y H H', R x y H → SameI H H' → R x y H')
    (hs : ∀ x H (A : V → Hp → Prop) (B : Hp → Prop), x ∈ xs → Same H1 H → (∀ y H', Same H H' → R x y H' → pr x = true → A y H') → (∀ H', Same H H' → pr x = false → B H') →
      g x (wipe σ vs) H fun σ2 H2 => wipe σ2 vs = wipe σ vs ∧ tt σ2 H2 fun b H3 => if b = true then te σ2 H3 A else B H3)
    (hd : ∀ D ys H', H1 D = none → H' D = some (.lst ys) → Paired (fun x y => R x y H') (xs.filter pr) ys → Same H1 H' → Q (.ref D) H') :
    Walk K H1 p (Wr (LcGo g tt te vs σ Q)) := by
  refine lc_seq hx fun D hD => ⟨fun i H => ∃ ys, H D = some (.lst ys) ∧ Paired (fun x y => R x y H) ((xs.take i).filter pr) ys ∧ Same H1 H, ⟨[], upd_same, .nil, same_new hD⟩, fun i H _ ⟨_, _, _, e⟩ ys => ⟨e.seq, Same.tup e⟩, ?_, fun H ⟨ys, h1, h2, e⟩ => hd D ys H hD h1 (by rw [List.take_length] at h2; exact h2) e⟩
  rintro i x H hi ⟨ys, h1, h2, e⟩
  have hlen : ys.length ≤ i := by
    rw [← h2.length]
    exact Nat.le_trans (List.length_filter_le _ _) (by rw [List.length_take]; exact Nat.min_le_left _ _)
  have hil : i < xs.length := (List.getElem?_eq_some_iff.mp hi).1
  refine hs x H _ _ (List.mem_of_getElem? hi) e (fun y H' e2 r hp => ⟨ys, e2 _ _ h1, by omega, ys ++ [y], upd_same, ?_, ?_⟩) fun H' e2 hp => ⟨ys, e2 _ _ h1, ?_, e.trans e2⟩
  · have si : SameI H' (upd H' D (.lst (ys ++ [y]))) := SameI.lst (e2 _ _ h1)
    rw [take_filter hi, if_pos hp]
    exact Paired.snoc (Paired.mapP h2 fun a b r => mono _ _ _ _ r (SameI.trans (Same.i e2) si)) (mono _ _ _ _ r si)
  · intro b o hb
    rw [upd_ne (ne_of_none hb hD)]
    exact e2 _ _ (e _ _ hb)
  · rw [take_filter hi, if_neg (by rw [hp]; exact Bool.false_ne_true), List.append_nil]
    exact Paired.mapP h2 fun a b r => mono _ _ _ _ r (Same.i e2)
/-- .. whose test and elements are told by functions of the item -/
theorem lc_map {K : Frag} {p : Addr} {xs : List V} {g : TG} {tt : TT} {te : TE} {vs : List Nat} {σ : L2.St} {H1 : Hp} {Q : VK} (f : V → V) (pr : V → Bool) (hx : SqA K H1 p xs) (hz : xs.length < sizeLine)
    (hs : ∀ x H (A : V → Hp → Prop) (B : Hp → Prop), x ∈ xs → Same H1 H → (∀ H', Same H H' → pr x = true → A (f x) H') → (∀ H', Same H H' → pr x = false → B H') →
      g x (wipe σ vs) H fun σ2 H2 => wipe σ2 vs = wipe σ vs ∧ tt σ2 H2 fun b H3 => if b = true then te σ2 H3 A else B H3)
    (hd : ∀ D H', H1 D = none → H' D = some (.lst ((xs.filter pr).map f)) → Same H1 H' → Q (.ref D) H') :
    Walk K H1 p (Wr (LcGo g tt te vs σ Q)) := by
  refine lc_rel (fun x y _ => y = f x) pr hx hz (fun _ _ _ _ r _ => r) (fun x H A B hm e hA hB => hs x H A B hm e (fun H' e2 hp => hA _ _ e2 rfl hp) hB) fun D ys H' hn hD hp e => hd D H' hn ?_ e
  have key : ∀ {as bs : List V}, Paired (fun x y => y = f x) as bs → bs = as.map f := by
    intro as bs h
    induction h with
    | nil => rfl
    | cons r _ ih => rw [r, ih]; rfl
  rw [← key hp]; exact hD
end S
namespace S
open PySem PySem.Spec PyProof.Rows L2
/-! ### classes by their names -/
/-- the class x: below the classes ups of the text and the built-in ones tys -/
structure MF (K : Frag) (x : Str) (ups : List Str) (tys : List String) : Prop where
  cd : ∃ cd, PySem.W.clsIn K (He.ga K x) = some cd ∧ cd.name = x ∧ cd.mro = (x :: ups).map (fun y => Value.ref (He.ga K y)) ++ tys.map Value.type
  up : ∀ y ∈ ups, ∃ cd, PySem.W.clsIn K (He.ga K y) = some cd ∧ cd.name = y
  ty : PySem.W.typeIn K (.ref (He.ga K x)) = some (.type "type")
def nmB (K : Frag) (y : Str) : Bool := match PySem.W.clsIn K (He.ga K y) with
  | some cd => decide (cd.name = y)
  | none => false
theorem nmB_ok {K : Frag} {y : Str} (h : nmB K y = true) : ∃ cd, PySem.W.clsIn K (He.ga K y) = some cd ∧ cd.name = y := by
  unfold nmB at h
  split at h
  · rename_i cd e
    exact ⟨cd, e, of_decide_eq_true h⟩
  · cases h
def mfB (K : Frag) (x : Str) (ups : List Str) (tys : List String) : Bool := (match PySem.W.clsIn K (He.ga K x) with
  | some cd => decide (cd.name = x) && decide (cd.mro = (x :: ups).map (fun y => Value.ref (He.ga K y)) ++ tys.map Value.type)
  | none => false) && (ups.all (nmB K) && decide (PySem.W.typeIn K (.ref (He.ga K x)) = some (.type "type")))
theorem mfB_ok {K : Frag} {x : Str} {ups : List Str} {tys : List String} (h : mfB K x ups tys = true) : MF K x ups tys := by
  unfold mfB at h
  obtain ⟨h1, h2⟩ := He.ba h
  obtain ⟨h3, h4⟩ := He.ba h2
  refine ⟨?_, fun y hy => nmB_ok (List.all_eq_true.mp h3 y hy), of_decide_eq_true h4⟩
  split at h1
  · rename_i cd e
    obtain ⟨h5, h6⟩ := He.ba h1
    exact ⟨cd, e, of_decide_eq_true h5, of_decide_eq_true h6⟩
  · cases h1
theorem nm_inj {K : Frag} {x y : Str} (h1 : ∃ cd, PySem.W.clsIn K (He.ga K x) = some cd ∧ cd.name = x) (h2 : ∃ cd, PySem.W.clsIn K (He.ga K y) = some cd ∧ cd.name = y) (e : He.ga K x = He.ga K y) : x = y := by
  obtain ⟨c1, e1, n1⟩ := h1
  obtain ⟨c2, e2, n2⟩ := h2
  rw [e, e2] at e1
  cases e1
  exact n1.symm.trans n2
theorem MF.nm {K : Frag} {x : Str} {ups : List Str} {tys : List String} (m : MF K x ups tys) : ∃ cd, PySem.W.clsIn K (He.ga K x) = some cd ∧ cd.name = x := let ⟨cd, a, b, _⟩ := m.cd; ⟨cd, a, b⟩
theorem MF.all {K : Frag} {x : Str} {ups : List Str} {tys : List String} (m : MF K x ups tys) : ∀ y ∈ x :: ups, ∃ cd, PySem.W.clsIn K (He.ga K y) = some cd ∧ cd.name = y := fun y hy => by
  rcases List.mem_cons.mp hy with e | e
  · subst e; exact m.nm
  · exact m.up y e
section
variable {K : Frag} {x y : Str} {ups ups' : List Str} {tys tys' : List String}
theorem mf_sub (m : MF K x ups tys) (b : Value) : PySem.W.subIn K (.ref (He.ga K x)) b = some (decide (b ∈ (x :: ups).map (fun y => Value.ref (He.ga K y)) ++ tys.map Value.type)) := by
  obtain ⟨cd, e, _, hm⟩ := m.cd
  show PySem.W.mroIn K (He.ga K x) b = _
  unfold PySem.W.mroIn
  rw [e, Option.bind_some, hm, if_neg (by simp)]
  congr 1
  rw [Bool.eq_iff_iff]
  simp
theorem mf_cls (m : MF K x ups tys) (n : MF K y ups' tys') : PySem.W.kitCls K (.ref (He.ga K x)) (.ref (He.ga K y)) = some (decide (y ∈ x :: ups)) := by
  obtain ⟨cd, e, _⟩ := n.cd
  show (if ((PySem.W.clsIn K (He.ga K y)).isSome && PySem.W.typeIn K (.ref (He.ga K y)) == some (.type "type")) = true then PySem.W.subIn K (.ref (He.ga K x)) (.ref (He.ga K y)) else none) = _
  rw [if_pos (by rw [e, n.ty]; simp), mf_sub m]
  congr 1
  rw [decide_eq_decide]
  simp only [List.mem_append, List.mem_map]
  constructor
  · rintro (⟨z, hz, e⟩ | ⟨z, _, e⟩)
    · rw [← nm_inj (m.all z hz) n.nm (Value.ref.inj e)]
      exact hz
    · cases e
  · intro h
    exact .inl ⟨y, h, rfl⟩
theorem mf_kit (m : MF K x ups tys) (n : MF K y ups' tys') : PySem.W.kitOne K (.ref (He.ga K x)) (.ref (He.ga K y)) = some (decide (y ∈ x :: ups)) := by
  unfold PySem.W.kitOne
  split
  · rename_i h
    have e := nm_inj m.nm n.nm (Value.ref.inj (beq_iff_eq.mp h))
    subst e
    rw [decide_eq_true (List.mem_cons_self)]
  · exact mf_cls m n
theorem mf_exm (m : MF K x ups tys) (n : MF K y ups' tys') (hb : "BaseException" ∈ tys') : PySem.W.exmOne K (.ref (He.ga K x)) (.ref (He.ga K y)) = some (decide (y ∈ x :: ups)) := by
  unfold PySem.W.exmOne
  rw [if_pos, mf_cls m n]
  rw [mf_sub n, decide_eq_true]
  · rfl
  · exact List.mem_append.mpr (.inr (List.mem_map.mpr ⟨_, hb, rfl⟩))
/-- an instance of the class x against a built-in class -/
theorem mf_kty (m : MF K x ups tys) {n : String} (hk : PySem.W.kitMeta n = true) : PySem.W.kitOne K (.ref (He.ga K x)) (.type n) = some (decide (n ∈ tys)) := by
  unfold PySem.W.kitOne
  rw [if_neg (by simp)]
  show (if PySem.W.kitMeta n = true then PySem.W.subIn K (.ref (He.ga K x)) (.type n) else none) = _
  rw [if_pos hk, mf_sub m]
  congr 1
  rw [decide_eq_decide]
  simp
/-- a built-in type against the class y -/
theorem mf_tyk (n : MF K y ups' tys') {t : String} (ht : (PySem.fastBuiltinMro t).isSome = true) : PySem.W.kitOne K (.type t) (.ref (He.ga K y)) = some false := by
  unfold PySem.W.kitOne
  rw [if_neg (by simp)]
  obtain ⟨cd, e, _⟩ := n.cd
  show (if ((PySem.W.clsIn K (He.ga K y)).isSome && PySem.W.typeIn K (.ref (He.ga K y)) == some (.type "type")) = true then PySem.W.subIn K (.type t) (.ref (He.ga K y)) else none) = _
  rw [if_pos (by rw [e, n.ty]; simp)]
  show (PySem.fastBuiltinMro t).map (·.contains (.ref (He.ga K y))) = _
  obtain ⟨l, hl⟩ := Option.isSome_iff_exists.mp ht
  rw [hl]
  unfold PySem.fastBuiltinMro at hl
  obtain ⟨r, _, rfl⟩ := Option.map_eq_some_iff.mp hl
  rw [Option.map_some]
  congr 1
  rw [Bool.eq_false_iff]
  intro z
  rw [List.contains_iff_mem, List.mem_map] at z
  obtain ⟨_, _, e⟩ := z
  cases e
end
/-! ### classes with slots -/
structure CF (K : Frag) (x : Str) (fs : List Str) : Prop where
  mf : MF K x [] ["object"]
  sc : SlX.SCls K (He.ga K x)
  si : SlX.SIsi K (He.ga K x)
  sl : ∀ i f, fs[i]? = some f → SlX.Slot1 K (He.ga K x) f (He.ma K (He.ga K x) f) i
def sclsB (K : Frag) (C : Addr) : Bool := PySem.W.plainGet K C Str.empty && (PySem.W.isClsIn K C && (PySem.W.plainOver K C && He.eqO (PySem.W.findIn K (.ref C) "__setattr__") (some (some (.builtin "object.__setattr__")))))
theorem sclsB_ok {K : Frag} {C : Addr} (h : sclsB K C = true) : SlX.SCls K C := by
  obtain ⟨h1, h⟩ := He.ba h
  obtain ⟨h2, h⟩ := He.ba h
  obtain ⟨h3, h4⟩ := He.ba h
  exact ⟨h1, h2, h3, He.eqO_ok h4⟩
def sisiB (K : Frag) (C : Addr) : Bool := He.eqO (PySem.W.findIn K (.ref C) "__class__") (some (some (.builtin "object.__class__"))) && (He.eqO (PySem.W.specialIn K (.builtin "object.__class__") "__get__") (some (some (.builtin "getset_descriptor.__get__"))) &&
  (decide (PySem.W.takesIn K (.builtin "object.__class__") = some true) && decide (PySem.W.mroIn K C (.type "object") = some true)))
theorem sisiB_ok {K : Frag} {C : Addr} (h : sisiB K C = true) : SlX.SIsi K C := by
  obtain ⟨h1, h⟩ := He.ba h
  obtain ⟨h2, h⟩ := He.ba h
  obtain ⟨h3, h4⟩ := He.ba h
  exact ⟨He.eqO_ok h1, He.eqO_ok h2, of_decide_eq_true h3, of_decide_eq_true h4⟩
def slotB (K : Frag) (C : Addr) (f : Str) (p : Addr) (i : Nat) : Bool := He.eqO (PySem.W.findIn K (.ref C) f) (some (some (.ref p))) && (He.eqO (PySem.W.specialIn K (.ref p) "__get__") (some (some (.builtin "member_descriptor.__get__"))) &&
  (decide (PySem.W.takesIn K (.ref p) = some true) && (decide (PySem.W.typeIn K (.ref p) = some (.type "member_descriptor")) && (decide (PySem.W.slotIn K p C = some i) && decide (i < 1000)))))
theorem slotB_ok {K : Frag} {C : Addr} {f : Str} {p : Addr} {i : Nat} (h : slotB K C f p i = true) : SlX.Slot1 K C f p i := by
  obtain ⟨h1, h⟩ := He.ba h
  obtain ⟨h2, h⟩ := He.ba h
  obtain ⟨h3, h⟩ := He.ba h
  obtain ⟨h4, h⟩ := He.ba h
  obtain ⟨h5, h6⟩ := He.ba h
  exact ⟨He.eqO_ok h1, He.eqO_ok h2, of_decide_eq_true h3, of_decide_eq_true h4, of_decide_eq_true h5, of_decide_eq_true h6⟩
def slotsB (K : Frag) (C : Addr) : List Str → Nat → Bool
  | [], _ => true
  | f :: r, i => slotB K C f (He.ma K C f) i && slotsB K C r (i + 1)
theorem slotsB_ok {K : Frag} {C : Addr} : ∀ {fs : List Str} {n : Nat}, slotsB K C fs n = true → ∀ i f, fs[i]? = some f → SlX.Slot1 K C f (He.ma K C f) (n + i)
  | [], _, _, i, f, e => by simp at e
  | g :: r, n, h, i, f, e => by
    obtain ⟨h1, h2⟩ := He.ba (show (slotB K C g (He.ma K C g) n && slotsB K C r (n + 1)) = true from h)
    cases i with
    | zero =>
      have e' : g = f := by simpa using e
      subst e'
      exact slotB_ok h1
    | succ i =>
      have z := slotsB_ok h2 i f (by simpa using e)
      rw [show n + 1 + i = n + (i + 1) by omega] at z
      exact z
def cfB (x : Str) (fs : List Str) (K : Frag) : Bool := mfB K x [] ["object"] && (sclsB K (He.ga K x) && (sisiB K (He.ga K x) && slotsB K (He.ga K x) fs 0))
theorem cfB_ok {K : Frag} {x : Str} {fs : List Str} (h : cfB x fs K = true) : CF K x fs := by
  obtain ⟨h1, h⟩ := He.ba h
  obtain ⟨h2, h⟩ := He.ba h
  obtain ⟨h3, h4⟩ := He.ba h
  exact ⟨mfB_ok h1, sclsB_ok h2, sisiB_ok h3, fun i f e => by have z := slotsB_ok h4 i f e; rw [Nat.zero_add] at z; exact z⟩
/-! ### the exceptions -/
def veTys : List String := ["ValueError", "Exception", "BaseException", "object"]
structure ExF (K : Frag) (x : Str) (ups : List Str) : Prop where
  mf : MF K x ups veTys
  ec : L2.ExcC K (He.ga K x)
def excB (K : Frag) (D : Addr) : Bool := He.eqO (PySem.W.findIn K (.ref D) "__getattribute__") (some (some (.builtin "BaseException.__getattribute__"))) && (He.eqO (PySem.W.findIn K (.ref D) "__getattr__") (some none) && (decide (PySem.W.subIn K (.ref D) (.type "BaseException") = some true) &&
  (PySem.W.hasDictIn K D && (He.eqO (PySem.W.findIn K (.ref D) "__class__") (some (some (.builtin "object.__class__"))) && (He.eqO (PySem.W.specialIn K (.builtin "object.__class__") "__get__") (some (some (.builtin "getset_descriptor.__get__"))) &&
  (decide (PySem.W.takesIn K (.builtin "object.__class__") = some true) && decide (PySem.W.mroIn K D (.type "object") = some true)))))))
theorem excB_ok {K : Frag} {D : Addr} (h : excB K D = true) : L2.ExcC K D := by
  obtain ⟨h1, h⟩ := He.ba h
  obtain ⟨h2, h⟩ := He.ba h
  obtain ⟨h3, h⟩ := He.ba h
  obtain ⟨h4, h⟩ := He.ba h
  obtain ⟨h5, h⟩ := He.ba h
  obtain ⟨h6, h⟩ := He.ba h
  obtain ⟨h7, h8⟩ := He.ba h
  exact ⟨He.eqO_ok h1, He.eqO_ok h2, of_decide_eq_true h3, h4, He.eqO_ok h5, He.eqO_ok h6, of_decide_eq_true h7, of_decide_eq_true h8⟩
def exfB (x : Str) (ups : List Str) (K : Frag) : Bool := mfB K x ups veTys && excB K (He.ga K x)
theorem exfB_ok {K : Frag} {x : Str} {ups : List Str} (h : exfB x ups K = true) : ExF K x ups := by
  obtain ⟨h1, h2⟩ := He.ba h
  exact ⟨mfB_ok h1, excB_ok h2⟩
/-- what raising needs of a class without own __init__ -/
structure RsF (K : Frag) (x : Str) : Prop where
  q : PySem.W.excIn K (He.ga K x) He.veBase "ValueError.__new__" = true
  kp : PySem.W.keepIn K (.ref (He.ga K x)) = true
  sub : PySem.W.subIn K (.ref (He.ga K x)) (.type "BaseException") = some true
  ty : PySem.W.typeIn K (.ref (He.ga K x)) = some (.type "type")
def rsB (x : Str) (K : Frag) : Bool := (He.Fa.exc x).ok K
theorem rsB_ok {K : Frag} {x : Str} (h : rsB x K = true) : RsF K x := let ⟨a, b, c, d⟩ := He.exc_ok h; ⟨a, b, c, d⟩
/-! ### given facts -/
def dGiv (P : Prop) (t : TE) : TE := fun σ H Q => P → t σ H Q
theorem pe_giv {X : Cx} {e : Expr} {P : Prop} {t : TE} (p : P) (h : PE X e t) : PE X e (dGiv P t) := ⟨fun pins s σ H Q I q => h.run pins s σ H Q I (q p)⟩
def dGivS (P : Prop) (t : TS) : TS := fun D σ H => P → t D σ H
theorem ps_giv {X : Cx} {e : Stmt} {P : Prop} {t : TS} (p : P) (h : PS X e t) : PS X e (dGivS P t) := ⟨fun pins s σ H Q I q => h.run pins s σ H Q I (q p)⟩
/-! ### attributes -/
structure Atr (K : Frag) (H : Hp) (a : Addr) (f : Str) (k : V → Prop) : Prop where
  ex : (∃ C dx p vs i v, SlX.Slt H a C dx vs ∧ SlX.SCls K C ∧ SlX.Slot1 K C f p i ∧ vs[i]? = some (some v) ∧ k v) ∨ (∃ C dx fs v, H a = some (.ins C dx fs) ∧ Cls K C ∧ NoAttr K C f ∧ fs.lookup f = some v ∧ k v)
theorem Atr.sl {K : Frag} {H : Hp} {a dx : Addr} {f x : Str} {k : V → Prop} {fs : List Str} {vs : List (Option V)} {i : Nat} {v : V} (c : CF K x fs) (h : SlX.Slt H a (He.ga K x) dx vs) (e : fs[i]? = some f) (l : vs[i]? = some (some v)) (q : k v) : Atr K H a f k := ⟨.inl ⟨_, dx, _, vs, i, v, h, c.sc, c.sl i f e, l, q⟩⟩
def dAt (K : Frag) (f : Str) (ta : TE) : TE := fun σ H Q => ta σ H fun x H1 => match x with
  | .ref a => Atr K H1 a f fun v => Q v H1
  | _ => False
theorem pe_at {X : Cx} {e : Expr} {f : Str} {pos : Pos} {ta : TE} (he : PE X e ta) (hb : attributeBase e f X.env (eval e X.env) = eval e X.env := by rfl) : PE X (.Attribute e f pos) (dAt X.K f ta) := by
  refine ⟨fun pins s σ H Q I h => ?_⟩
  refine attr_of hb (thn (he.run pins s σ H _ I h) fun u s1 ⟨x, H1, I1, rx, q⟩ => ?_)
  cases x <;> try exact q.elim
  cases rx
  rcases q.ex with ⟨C, dx, p, vs, i, v, hs, c, t, l, q⟩ | ⟨C, dx, fs, v, ea, c, n, l, q⟩
  · exact SlX.getslot_ok I1 hs c t l fun u' s2 I2 ru => ⟨v, H1, I2, ru, q⟩
  · exact getattr_ok I1 ea c n l fun u' s2 I2 ru => ⟨v, H1, I2, ru, q⟩
structure Sto (K : Frag) (H : Hp) (a : Addr) (f : Str) (y : V) (k : Hp → Prop) : Prop where
  ex : (∃ C dx p vs i, SlX.Slt H a C dx vs ∧ SlX.SCls K C ∧ SlX.Slot1 K C f p i ∧ k (SlX.slH H a C dx (SlX.putS i y vs))) ∨ (∃ C dx fs, H a = some (.ins C dx fs) ∧ Cls K C ∧ NoAttr K C f ∧ fs.length < 1000 ∧ k (upd H a (.ins C dx (putF f y fs))))
theorem Sto.sl {K : Frag} {H : Hp} {a dx : Addr} {f x : Str} {k : Hp → Prop} {fs : List Str} {vs : List (Option V)} {i : Nat} {y : V} (c : CF K x fs) (h : SlX.Slt H a (He.ga K x) dx vs) (e : fs[i]? = some f) (q : k (SlX.slH H a (He.ga K x) dx (SlX.putS i y vs))) : Sto K H a f y k := ⟨.inl ⟨_, dx, _, vs, i, h, c.sc, c.sl i f e, q⟩⟩
def dSto (K : Frag) (f : Str) (tv ta : TE) : TS := fun D σ H => tv σ H fun y H1 => ta σ H1 fun x H2 => match x with
  | .ref a => Sto K H2 a f y fun H3 => D.nx σ H3
  | _ => False
theorem ps_sto {X : Cx} {o value : Expr} {f : Str} {pos pos' : Pos} {ta tv : TE} (hv : PE X value tv) (ha : PE X o ta) (hs : swapsWith value (some (.Attribute o f pos')) pos.line X.env = pure false := by rfl) : PS X (.Assign [.Attribute o f pos'] value pos) (dSto X.K f tv ta) := by
  refine ⟨fun pins s σ H D I h => ?_⟩
  refine plainObj_wpAny_Assign_Attribute (thn (hv.run pins s σ H _ I h) fun u s1 ⟨y, H1, I1, ry, q⟩ => thn (ha.run pins s1 σ H1 _ I1 q) fun ov s2 ⟨x, H2, I2, rx, q2⟩ => ?_) hs
  cases x <;> try exact q2.elim
  cases rx
  rcases q2.ex with ⟨C, dx, p, vs, i, hsl, c, t, q2⟩ | ⟨C, dx, fs, ea, c, n, l, q2⟩
  · exact SlX.setslot_ok I2 hsl c t ry fun s3 I3 => ⟨σ, _, I3, q2⟩
  · exact setattr_ok I2 ea c n l ry fun s3 I3 => ⟨σ, _, I3, q2⟩
/-! ### new instances -/
structure NewI (K : Frag) (H : Hp) (c : Str) (k : Addr → Hp → Prop) : Prop where
  go : ∀ x dx, H x = none → H dx = none → dx ≠ x → k x (upd (upd H dx (.own x)) x (.ins (He.ga K c) dx []))
def dMake (K : Frag) (c : Str) (sp : Sp) (E : L2.St → XK) (t : TA) : TE := fun σ H Q => t σ H fun vs H1 => NewI K H1 c fun x H2 => sp (.ref x :: vs) H2 (fun v H3 => v = .non ∧ Q (.ref x) H3) (E σ)
section
variable {X : Cx} {k : Nat} {g : Addr} {sp : Sp} {E : L2.St → XK} {x c m : Str} {p pos apos : Pos} {e o : Expr} {es : List Expr} {t : TA} {ta : TE}
theorem run_mk {pins : List (Addr × Obj)} {σ : L2.St} {H : Hp} {s : Shared} {Q : VK} {us : List Value} {vs : List V} (M : Mk X.K (He.ga X.K c) g) (F : FnR X.prog X.w X.K X.mg X.base (L2.CX X.prog X.w) k g sp) (hr : Room (k + 1) X.A) (hx : PassesAt (L2.CX X.prog X.w) X σ (E σ))
    (I : Inv X pins σ H s) (r : Vals vs us) (h : NewI X.K H c fun x H2 => sp (.ref x :: vs) H2 (fun v H3 => v = .non ∧ Q (.ref x) H3) (E σ)) : wpAny (model X.prog X.w) X.A (call (.ref (He.ga X.K c)) us) (EP X pins σ Q) X.xe s := by
  have hq := h.go (s.heap.objs.size + 1) s.heap.objs.size (I.hok.fresh (Nat.le_succ _)) (I.hok.fresh (Nat.le_refl _)) (Nat.ne_of_lt (Nat.lt_succ_self _))
  have I2 := Inv.made (C := He.ga X.K c) I
  have r2 : Vals (V.ref (s.heap.objs.size + 1) :: vs) (Value.ref (s.heap.objs.size + 1) :: us) := .cons rfl r
  refine wpAny_call (make_map (f := g) I.kIn M.makes M.init (beq_iff_eq.mp M.fn) (codeAny_mono (F _ X.stack _ _ (Value.ref (s.heap.objs.size + 1) :: us) _ _ (E σ) (hr.make (He.ga X.K c) us []) (I2.env0.make (He.ga X.K c) us []) r2 hq) fun r s' hq' => ?_))
  cases r with
  | error e => exact hx pins _ _ e s' I2 hq'
  | ok fl =>
    cases fl with
    | ret u =>
      obtain ⟨v, H', I3, rv, ev, q3⟩ := I2.after hq'
      subst ev
      exact ⟨rv, ⟨V.ref (s.heap.objs.size + 1), H', I3, rfl, q3⟩⟩
    | next => exact False.elim hq'
    | brk => exact False.elim hq'
    | cont => exact False.elim hq'
theorem pe_mk (M : Mk X.K (He.ga X.K c) g) (F : FnR X.prog X.w X.K X.mg X.base (L2.CX X.prog X.w) k g sp) (hr : Room (k + 1) X.A) (hm : X.mg c = some (.ref (He.ga X.K c))) (hx : ∀ σ, PassesAt (L2.CX X.prog X.w) X σ (E σ))
    (ha : PA X (e :: es) t) (hg : Gl X c := by rfl) (hdb : (c == ("__debug__" : Str)) = false := by decide) (he : starEach (e :: es) X.env = (false, eval e X.env) :: starEach es X.env := by rfl) (hpl : (backTo pos (starEach es X.env)).any (·.1) = false := by rfl) :
    PE X (.Call (.Name c p) (e :: es) [] pos) (dMake X.K c sp E t) := by
  refine ⟨fun pins s σ H Q I h => ?_⟩
  refine wpAny_Call_Name_kw (ld_glob I hg hm ?_ hdb)
  refine PySem.W.callWith_K (h₀ := X.base) I.ok.mod.kin M.kp (thn (ha.run pos pins s σ H _ I h) fun us s1 ⟨vs, H1, I1, r, q⟩ => ⟨I1.kIn, ?_⟩) he hpl
  exact run_mk M F hr (hx σ) I1 r q
/-! ### methods of instances with slots -/
structure IsO (K : Frag) (H : Hp) (c : Str) (a : Addr) (q : Prop) : Prop where
  ex : ∃ dx vs, SlX.Slt H a (He.ga K c) dx vs
  q : q
theorem IsO.of {K : Frag} {H : Hp} {c : Str} {a dx : Addr} {q : Prop} {vs : List (Option V)} (h : SlX.Slt H a (He.ga K c) dx vs) (h2 : q) : IsO K H c a q := ⟨⟨dx, vs, h⟩, h2⟩
def dMeth (K : Frag) (c : Str) (sp : Sp) (E : L2.St → XK) (ta : TE) (t : TA) : TE := fun σ H Q => ta σ H fun x H1 => match x with
  | .ref a => IsO K H1 c a (t σ H1 fun ws H2 => sp (.ref a :: ws) H2 Q (E σ))
  | _ => False
theorem pe_meth {pl : Sem Bool} (hc : SlX.SCls X.K (He.ga X.K c)) (hm : Meth X.K (He.ga X.K c) m g) (F : FnR X.prog X.w X.K X.mg X.base (L2.CX X.prog X.w) k g sp) (hr : Room k X.A) (hx : ∀ σ, PassesAt (L2.CX X.prog X.w) X σ (E σ)) (he : PE X o ta) (ha : PA X (e :: es) t)
    (hst : starEach (e :: es) X.env = (false, eval e X.env) :: starEach es X.env := by rfl) (hpl : (backTo pos (starEach es X.env)).any (·.1) = false := by rfl)
    (ht : eval (.Call (.Attribute o m apos) (e :: es) [] pos) X.env = (do
      let ov ← eval o X.env
      standAt apos.atName
      let (f, first) ← holding [ov] (getMethod ov m pl)
      callWith pos f first (backTo pos (starEach (e :: es) X.env)) (backToKw pos (keywordEach [] X.env))) := by rfl) :
    PE X (.Call (.Attribute o m apos) (e :: es) [] pos) (dMeth X.K c sp E ta t) := by
  refine ⟨fun pins s σ H Q I h => ?_⟩
  refine PySem.W.methodCall_KW (pl := pl) (thn (he.run pins s σ H _ I h) fun u s1 ⟨x, H1, I1, rx, q⟩ => ?_) ht
  cases x <;> try exact q.elim
  cases rx
  obtain ⟨⟨dx, vs, hsl⟩, q⟩ := q
  refine SlX.getmethsl_ok I1 hsl hc hm ?_
  refine PySem.W.callWith_K (first := [.ref _]) (h₀ := X.base) I.ok.mod.kin hm.kp (thn (ha.run pos pins s1 σ H1 _ I1 q) fun us s2 ⟨ws, H2, I2, r, q2⟩ => ⟨I2.kIn, ?_⟩) hst hpl
  exact run_R (us := .ref _ :: us) (vs := .ref _ :: ws) F hr (hx σ) I2 (.cons rfl r) q2
theorem pe_meth0 {pl : Sem Bool} (hc : SlX.SCls X.K (He.ga X.K c)) (hm : Meth X.K (He.ga X.K c) m g) (F : FnR X.prog X.w X.K X.mg X.base (L2.CX X.prog X.w) k g sp) (hr : Room k X.A) (hx : ∀ σ, PassesAt (L2.CX X.prog X.w) X σ (E σ)) (he : PE X o ta)
    (ht : eval (.Call (.Attribute o m apos) [] [] pos) X.env = (do
      let ov ← eval o X.env
      standAt apos.atName
      let (f, first) ← holding [ov] (getMethod ov m pl)
      callWith pos f first (backTo pos (starEach [] X.env)) (backToKw pos (keywordEach [] X.env))) := by rfl) :
    PE X (.Call (.Attribute o m apos) [] [] pos) (dMeth X.K c sp E ta tNil) := by
  refine ⟨fun pins s σ H Q I h => ?_⟩
  refine PySem.W.methodCall_KW (pl := pl) (thn (he.run pins s σ H _ I h) fun u s1 ⟨x, H1, I1, rx, q⟩ => ?_) ht
  cases x <;> try exact q.elim
  cases rx
  obtain ⟨⟨dx, vs, hsl⟩, q⟩ := q
  refine SlX.getmethsl_ok I1 hsl hc hm ?_
  exact PySem.W.callWith_K0 (first := [.ref _]) I1.kIn hm.kp (run_R (us := [.ref _]) (vs := [.ref _]) F hr (hx σ) I1 (.cons rfl .nil) q)
/-- x in o, o an instance whose class has its own __contains__ -/
def oInO (K : Frag) (c : Str) (sp : Sp) (E : XK) : R2 := fun x y H Q => match y with
  | .ref a => IsO K H c a (sp [.ref a, x] H (isB fun b H' => Q (.bl b) H') E)
  | _ => False
theorem op_inO {E : XK} (hm : Meth X.K (He.ga X.K c) "__contains__" g) (F : FnR X.prog X.w X.K X.mg X.base (L2.CX X.prog X.w) k g sp) (hr : Room k X.A) (hx : ∀ σ, PassesAt (L2.CX X.prog X.w) X σ E) : OpR X (compareOp .In) (oInO X.K c sp E) := by
  intro pins s σ H x y v u Q I rx ry q
  cases y <;> try exact q.elim
  cases ry
  obtain ⟨⟨dx, vs, hsl⟩, q⟩ := q
  obtain ⟨sl, od, _, J, _⟩ := SlX.slt_inst I hsl
  obtain ⟨m, hF⟩ := I.fr
  refine PySem.W.in_K hF I.ok.mod.kin J hm.at_ hm.fn ?_
  refine wpAny_mono (run_R (us := [.ref _, v]) (vs := [.ref _, x]) (E := fun _ => E) F hr (hx σ) I (.cons rfl (.cons rx .nil)) q) (fun w s' z => ?_) fun _ _ x => x
  obtain ⟨z', H', I', rz, qz⟩ := z
  obtain ⟨b, e, qz⟩ := isB_ex qz
  subst e
  cases rz
  exact wpAny_truthy_bool ⟨.bl b, H', I', rfl, qz⟩
/-- o.f, a property -/
structure PropF (K : Frag) (c f : Str) (g : Addr) : Prop where
  at_ : PySem.W.findIn K (.ref (He.ga K c)) f = some (some (.ref (He.ma K (He.ga K c) f)))
  get : PySem.W.specialIn K (.ref (He.ma K (He.ga K c) f)) "__get__" = some (some (.builtin "property.__get__"))
  tk : PySem.W.takesIn K (.ref (He.ma K (He.ga K c) f)) = some true
  rc : ∃ rest, PySem.W.recIn K (He.ma K (He.ga K c) f) "property" = some (.ref g :: rest)
def dProp (K : Frag) (c : Str) (sp : Sp) (ta : TE) : TE := fun σ H Q => ta σ H fun x H1 => match x with
  | .ref a => IsO K H1 c a (sp [.ref a] H1 Q E0)
  | _ => False
theorem pe_prop {f : Str} {n : Nat} (hc : SlX.SCls X.K (He.ga X.K c)) (pf : PropF X.K c f g) (F : FnR X.prog X.w X.K X.mg X.base (L2.CX X.prog X.w) n g sp) (hr : Room (n + 1) X.A) (he : PE X e ta)
    (hb : attributeBase e f X.env (eval e X.env) = eval e X.env := by rfl) : PE X (.Attribute e f pos) (dProp X.K c sp ta) := by
  refine ⟨fun pins s σ H Q I h => ?_⟩
  refine attr_of hb (thn (he.run pins s σ H _ I h) fun w s1 ⟨x, H1, I1, rx, q⟩ => ?_)
  cases x <;> try exact q.elim
  cases rx
  obtain ⟨⟨dx, vs, hsl⟩, q⟩ := q
  exact SlX.getprop_sl (CX := L2.CX X.prog X.w) (E := E0) I1 hsl hc pf.at_ pf.get pf.tk pf.rc F hr (fun _ _ _ _ h => by obtain ⟨_, _, _, _, _, _, _, _, _, _, _, _, z⟩ := h; exact z.elim) q
end
/-! ### raise, try -/
def WD (E : XK) : WX := fun c d _ H => E c d H
def WN : WX := fun _ _ _ _ => False
theorem takes_never {X : Cx} : Takes X WN := fun u s' h => by
  obtain ⟨_, _, _, _, _, _, _, _, _, _, _, _, _, _, _, _, z⟩ := h
  exact z.elim
theorem takesD {P : Program} {w : World} {K : Frag} {mg : Str → Option Value} {base : Heap} {N : List Str} {qual : Str} {scope : Scope} {f : Addr} {cd : Value} {A : Around} {outer : List Env} {s : Shared} {H : Hp} {E : XK} :
    Takes (cxD P w K mg base N qual scope f cd A outer s H E) (WD E) := takes_of rfl rfl rfl rfl
theorem takesL {X : Cx} : Takes X (WD E0) := fun u s' h => by
  obtain ⟨_, _, _, _, _, _, _, _, _, _, _, _, _, _, _, _, z⟩ := h
  exact z.elim
def dRaise (K : Frag) (x : Str) (W : WX) : TS := fun _ σ H => W (.ref (He.ga K x)) none σ H
theorem ps_rs {X : Cx} {x m : Str} {j : Nat} {p p2 pos pos' : Pos} {W : WX} (tk : Takes X W) (r : RsF X.K x) (gC : X.mg x = some (.ref (He.ga X.K x))) (hc : X.calm = true := by rfl) (hg : Gl X x := by rfl) (hdb : (x == ("__debug__" : Str)) = false := by decide) :
    PS X (.Raise (some (.Call (.Name x p) [.Constant (.str m) j p2] [] pos)) none pos') (dRaise X.K x W) := ps_raise hc tk (pmk_own PySem.F.excBase_ValueError r.q gC r.kp (raises_own r.sub r.ty) hg hdb)
theorem hdl_yes {K : Frag} {cls c : Value} {i : Nat} {ts : Addr → Value → Option Addr → TS} {Wout : WX} {D : Ends} {d : Option Addr} {σ : L2.St} {H : Hp} (h : PySem.W.exmOne K cls c = some true)
    (q : ∀ a, H a = none → ts a cls d { nx := fun σ' H' => D.nx (σ'.set i none) H', rt := D.rt, bk := fun σ' H' => D.bk (σ'.set i none) H', ct := fun σ' H' => D.ct (σ'.set i none) H' } (σ.set i (some (.ref a))) H) : wAs K c i ts Wout D cls d σ H :=
  ⟨true, h, fun _ => q, fun z => nomatch z⟩
theorem hdl_no {K : Frag} {cls c : Value} {i : Nat} {ts : Addr → Value → Option Addr → TS} {Wout : WX} {D : Ends} {d : Option Addr} {σ : L2.St} {H : Hp} (h : PySem.W.exmOne K cls c = some false) (q : Wout cls d σ H) : wAs K c i ts Wout D cls d σ H :=
  ⟨false, h, (fun z => nomatch z), fun _ => q⟩
def dTry (K : Frag) (c : Str) (i : Nat) (tb : WX → TS) (ts : Addr → Value → Option Addr → TS) (Wout : WX) : TS := fun D σ H => tb (wAs K (.ref (He.ga K c)) i ts Wout D) D σ H
theorem ps_try {X : Cx} {c n : Str} {i : Nat} {body suite : List Stmt} {b₀ : Stmt} {np pos pos' : Pos} {tb : WX → TS} {ts : Addr → Value → Option Addr → TS} {Wout : WX} (hN : X.N.Nodup) (gc : X.mg c = some (.ref (He.ga X.K c))) (tk : Takes X Wout)
    (hb : ∀ (W : WX) (pn : List (Addr × Obj)) (xe : Value → Shared → Prop), Takes (X.tr pn xe) W → PassesOwn (model X.prog X.w) X.A X.env xe → PSs (X.tr pn xe) body (tb W))
    (hsu : ∀ (a : Addr) (oe : Obj) (cls : Value) (d : Option Addr) (pn : List (Addr × Obj)), Zc cls d oe → (∃ vs, oe.data = .fields vs) → PSs (X.suite a ((a, oe) :: pn)) (b₀ :: suite) (ts a cls d))
    (hs : X.stack = X.env :: X.outer := by rfl) (hf : X.env.frame = some X.env.locals := by rfl) (hi : X.N[i]? = some n := by rfl) (hln : X.env.kindOf n = some .local := by rfl) (hg : Gl X c := by rfl) (hdb : (c == ("__debug__" : Str)) = false := by decide) :
    PS X (.Try body [.ExceptHandler (some (.Name c np)) (some n) (b₀ :: suite) pos'] [] [] pos) (dTry X.K c i tb ts Wout) := ps_try_as hs hf hN hi hln ⟨hg, hdb, .inl gc⟩ tk hb hsu
/-- isinstance(e, c), e the exception of the suite -/
structure IsE (K : Frag) (H : Hp) (a : Addr) (cls : Value) (d : Option Addr) (p : Addr) (u : Value) (k : Bool → Prop) : Prop where
  ex : ∃ D b, p = a ∧ cls = .ref D ∧ L2.ExcC K D ∧ (∀ dx, d = some dx → ∃ o, H dx = some o) ∧ PySem.W.kitOne K (.ref D) u = some b ∧ k b
theorem IsE.of {K : Frag} {H : Hp} {a D : Addr} {u : Value} {k : Bool → Prop} {b : Bool} (h : L2.ExcC K D) (e : PySem.W.kitOne K (.ref D) u = some b) (q : k b) : IsE K H a (.ref D) none a u k := ⟨D, b, rfl, rfl, h, (fun _ z => nomatch z), e, q⟩
theorem IsE.ofd {K : Frag} {H : Hp} {a D dx : Addr} {o : HO} {u : Value} {k : Bool → Prop} {b : Bool} (h : L2.ExcC K D) (hd : H dx = some o) (e : PySem.W.kitOne K (.ref D) u = some b) (q : k b) : IsE K H a (.ref D) (some dx) a u k := ⟨D, b, rfl, rfl, h, (fun _ z => by cases z; exact ⟨o, hd⟩), e, q⟩
def cIsE (K : Frag) (a : Addr) (cls : Value) (d : Option Addr) : List V → Hp → VK → Prop := fun xs H Q => match xs with
  | [.ref p, .ty n] => IsE K H a cls d p (.type n) fun b => Q (.bl b) H
  | [.ref p, .ref C] => IsE K H a cls d p (.ref C) fun b => Q (.bl b) H
  | _ => False
theorem ise_call {X : Cx} {a : Addr} {cls : Value} {d : Option Addr} {oe : Obj} {pn pins : List (Addr × Obj)} {σ : L2.St} {H : Hp} {s : Shared} {p : Addr} {c : V} {cv : Value} {us : List Value} {Q : VK} (hz : Zc cls d oe) (hf : ∃ vs, oe.data = .fields vs) (I : Inv (X.suite a ((a, oe) :: pn)) pins σ H s) (r : Vals [.ref p, c] us)
    (hc : ∀ u, RelV c u → u = cv) (h : IsE X.K H a cls d p cv fun b => Q (.bl b) H) : wpAny (model X.prog X.w) (X.suite a ((a, oe) :: pn)).A (call (.builtin "isinstance") us) (EP (X.suite a ((a, oe) :: pn)) pins σ Q) (X.suite a ((a, oe) :: pn)).xe s := by
  obtain ⟨D, b, e1, e2, hD, hd, hk, q⟩ := h
  subst e1 e2
  cases r with
  | cons rx rr =>
    cases rr with
    | cons rt rr =>
      cases rr
      cases rx
      have ec := hc _ rt
      subst ec
      obtain ⟨hget, _⟩ := I.pin (p, oe) (List.mem_append.mpr (.inl List.mem_cons_self))
      obtain ⟨vs, hv⟩ := hf
      have hcl : (PySem.W.clsIn X.K D).isSome = true := by
        obtain ⟨cd, hc, _⟩ := PySem.W.any_some hD.hd
        rw [hc]; rfl
      have J : ∃ od, PySem.W.InstAt s.heap p oe D od := by
        obtain ⟨oc, od, oda, osl⟩ := oe
        obtain ⟨h1, h2⟩ := hz
        dsimp only at h1 h2 hv
        subst h1 h2 hv
        cases od with
        | none => exact ⟨none, hget, rfl, rfl, trivial⟩
        | some dx =>
          obtain ⟨o, ho⟩ := hd dx rfl
          obtain ⟨oo, hoo⟩ := objOk_get (I.hok dx o ho)
          exact ⟨some oo, hget, rfl, rfl, hoo⟩
      obtain ⟨od, J⟩ := J
      exact PySem.W.kia_one (PySem.W.kitx_exc hcl hD.hg hD.hk hD.hs hD.ha hD.hn hD.ht hD.hm) I.kIn J hk (fun z => nomatch z) fun tk => ⟨.bl b, H, I.kept (t' := tk) fun _ _ z => z, rfl, q⟩
theorem c_ise {X : Cx} {a : Addr} {cls : Value} {d : Option Addr} {oe : Obj} {pn : List (Addr × Obj)} (hz : Zc cls d oe) (hf : ∃ vs, oe.data = .fields vs) : CallR (X.suite a ((a, oe) :: pn)) (.builtin "isinstance") (cIsE X.K a cls d) := by
  intro pins s σ H xs us Q I r h
  match xs, h with
  | [.ref p, .ty n], h => exact ise_call hz hf I r (fun u z => z) h
  | [.ref p, .ref C], h => exact ise_call hz hf I r (fun u z => z) h
/-! ### defaults -/
def EmpT (K : Frag) (v : V) : Prop := ∃ a, v = .ref a ∧ ∀ H, SqT K H a []
def empA (K : Frag) (a : Addr) : Bool := match K.lookup a with
  | some ⟨.type c, _, .seq its _, _⟩ => decide (c = "tuple") && decide (its = #[])
  | _ => false
def empB (K : Frag) (v : V) : Bool := match v with
  | .ref a => empA K a
  | _ => false
theorem empB_ok {K : Frag} {v : V} (h : empB K v = true) : EmpT K v := by
  cases v with
  | ref a =>
    refine ⟨a, rfl, fun H => ?_⟩
    have h : empA K a = true := h
    unfold empA at h
    split at h
    · rename_i c od its n osl q
      obtain ⟨h1, h2⟩ := He.ba h
      have e : its = #[] := of_decide_eq_true h2
      subst e
      exact .inr ⟨_, #[], n, q, congrArg Value.type (of_decide_eq_true h1), rfl, by simp, .nil⟩
    · cases h
  | _ => cases h
def spD (sp : Sp) (dvs : List V) : Sp := fun vs H Q E => sp (vs ++ dvs) H Q E
theorem mk_fnD {P : Program} {w : World} {K : Frag} {mg : Str → Option Value} {base : Heap} {x qual : Str} {params : Arguments} {body : List Stmt} {scope : Scope} {f : Addr} {fd : FuncData} {N ps : List Str} {k : Nat} {sp : Sp} {dvs ex : List V} {kws : List (Str × V)} (F : FunD K x qual params body scope dvs kws f fd) (S : FnScope N ps scope)
    (len : ∀ vs H Q E, sp vs H Q E → vs.length = ps.length) (hb : ∃ ds, Vals ex ds ∧ Binds K fd ps ds) {t : XK → TS}
    (hbody : ∀ (cdv : Value) (A : Around) (outer : List Env) (s : Shared) (H : Hp) (E : XK), Room k (A.deeper (envOfC qual scope s.heap.objs.size f cdv)) →
      PSs (cxD P w K mg base N qual scope f cdv A outer s H E) body (t E))
    (pure : ∀ vs H Q E, sp vs H Q E → t E { nx := fun _ H' => Q .non H', rt := Q } (start N vs) H) : FR P w K mg base (k + 1) f (spD sp ex) := by
  obtain ⟨ds, hv, hb⟩ := hb
  exact (FunD.ok (P := P) (w := w) (mg := mg) (base := base) (CX := L2.CX P w) (sp := sp) F S len fun cdv A outer s H vs Q E hr h => ⟨t E, hbody cdv A outer s H E hr, pure vs H Q E h⟩).raw hb hv
theorem spD_nil {P : Program} {w : World} {K : Frag} {mg : Str → Option Value} {base : Heap} {f : Addr} {k : Nat} {sp : Sp} (F : FR P w K mg base k f (spD sp [])) : FR P w K mg base k f sp :=
  FnR.imp F fun vs H Q E h => by show sp (vs ++ []) H Q E; rw [List.append_nil]; exact h
/-! ### functions behind wrappers -/
def uA (K : Frag) (c m : Str) : Addr := match PySem.W.recIn K (He.ma K (He.ga K c) m) "property" with
  | some (.ref g :: _) => g
  | _ => (match PySem.W.recIn K (He.ma K (He.ga K c) m) "staticmethod" with
    | some (.ref g :: _) => g
    | _ => 0)
def propB (c f : Str) (K : Frag) : Bool := He.eqO (PySem.W.findIn K (.ref (He.ga K c)) f) (some (some (.ref (He.ma K (He.ga K c) f)))) && (He.eqO (PySem.W.specialIn K (.ref (He.ma K (He.ga K c) f)) "__get__") (some (some (.builtin "property.__get__"))) &&
  (decide (PySem.W.takesIn K (.ref (He.ma K (He.ga K c) f)) = some true) && (match PySem.W.recIn K (He.ma K (He.ga K c) f) "property" with
    | some (.ref g :: _) => decide (g = uA K c f)
    | _ => false)))
theorem propB_ok {K : Frag} {c f : Str} (h : propB c f K = true) : PropF K c f (uA K c f) := by
  obtain ⟨h1, h⟩ := He.ba h
  obtain ⟨h2, h⟩ := He.ba h
  obtain ⟨h3, h4⟩ := He.ba h
  refine ⟨He.eqO_ok h1, He.eqO_ok h2, of_decide_eq_true h3, ?_⟩
  split at h4
  · rename_i g r e
    rw [of_decide_eq_true h4] at e
    exact ⟨r, e⟩
  · cases h4
/-! ### defs by their addresses -/
structure DfX where
  ad : Frag → Addr
  name : Str
  qual : Str
  params : Arguments
  body : List Stmt
  scope : Scope
  dfl : List He.Dv := []
  kwd : List (Str × He.Dv) := []
  clo : List Str := []
def fnX (K : Frag) (a : Addr) : He.FnW := match K.lookup a with
  | some ⟨_, _, .func fd, _⟩ => some (fd.name, fd.qualname, fd.params, fd.body, fd.scope, fd.globals, fd.closure.map (fun c => (c.1, (0 : Addr))), fd.builtins)
  | _ => none
def DfX.val (d : DfX) : He.FnW := some (d.name, d.qual, d.params, .stmts d.body, d.scope, mainGlobals, d.clo.map (fun n => (n, (0 : Addr))), builtinsNs)
def DfX.dvs (K : Frag) (d : DfX) : List V := d.dfl.map (He.Dv.v K)
def DfX.kws (K : Frag) (d : DfX) : List (Str × V) := d.kwd.map fun q => (q.1, q.2.v K)
def DfX.ok (K : Frag) (d : DfX) : Bool := PySem.W.keepIn K (.ref (d.ad K)) && (match K.lookup (d.ad K) with
  | some ⟨_, _, .func fd, _⟩ => PySem.W.codeIn K fd.code d.qual && (He.dflB K fd.defaults (d.dvs K) && He.kwdB K fd.kwdefaults (d.kws K))
  | _ => false)
theorem DfX.funD {K : Frag} {d : DfX} (hclo : d.clo = []) (e : fnX K (d.ad K) = d.val) (c : d.ok K = true) : ∃ fd, FunD K d.name d.qual d.params d.body d.scope (d.dvs K) (d.kws K) (d.ad K) fd := by
  obtain ⟨kp, c2⟩ := He.ba c
  unfold fnX at e
  split at e
  · rename_i oc od fd osl q
    rw [q] at c2
    obtain ⟨k1, k2⟩ := He.ba c2
    obtain ⟨k3, k4⟩ := He.ba k2
    obtain ⟨n1, n2, n3, n4, n5, n6, n7, n8, n9, n10, n11, n12, n13, n14, n15⟩ := fd
    unfold DfX.val at e
    rw [hclo] at e
    simp only [Option.some.injEq, Prod.mk.injEq, List.map_nil, List.map_eq_nil_iff] at e
    obtain ⟨h1, h2, h3, h4, h5, h6, h7, h8⟩ := e
    subst h1 h2 h3 h4 h5 h6 h7 h8
    exact ⟨_, ⟨oc, od, n8, n9, n10, n11, n12, n13, n14, osl, rfl, q, k1, He.dflB_ok k3, He.kwdB_ok k4⟩, kp⟩
  · cases e
/-! ### the hook -/
abbrev AlX : Type := Bool × List He.FnW
def obsK (fa : List He.Fa) (fx : List (Frag → Bool)) (fn : List DfX) (K : Frag) : AlX := ((fa.all fun f => f.ok K) && ((fx.all fun f => f K) && fn.all fun d => d.ok K), fn.map fun d => fnX K (d.ad K))
def valX (fn : List DfX) : AlX := (true, fn.map DfX.val)
def SaysX (fa : List He.Fa) (fx : List (Frag → Bool)) (fn : List DfX) (K : Frag) : Prop := obsK fa fx fn K = valX fn
/-- what the names reach in n steps, the statics, the cells of closures -/
def asX (g : Addr → Option Obj) (n : Nat) : List Addr := let l := He.asD g n ++ [cStatics]
  l ++ l.flatMap fun a => match g a with
    | some ⟨_, _, .func fd, _⟩ => fd.closure.map (·.2)
    | _ => []
def obsXG (n : Nat) (fa : List He.Fa) (fx : List (Frag → Bool)) (fn : List DfX) (g : Addr → Option Obj) : AlX := obsK fa fx fn (He.frG g (asX g n))
def hookX (n : Nat) (fa : List He.Fa) (fx : List (Frag → Bool)) (fn : List DfX) : PySem.W.Hook where
  α := AlX
  obs := fun s => obsXG n fa fx fn s.heap.get?
  val := fun _ => valX fn
  says := fun _ h => ∃ K : Frag, K.In h ∧ SaysX fa fx fn K
  of := fun _ _ e => ⟨_, He.frG_in, e⟩
  keeps := fun _ _ _ ⟨K, hK, c⟩ k => ⟨K, PySem.W.Frag.In.keeps hK k, c⟩
theorem obsXG_eq {n : Nat} {fa : List He.Fa} {fx : List (Frag → Bool)} {fn : List DfX} {g : Addr → Option Obj} {s : Shared} (h : ∀ a, g a = s.heap.get? a) : obsXG n fa fx fn g = (hookX n fa fx fn).obs s := by
  have e : g = s.heap.get? := funext h
  rw [e] <;> rfl
section
variable {fa : List He.Fa} {fx : List (Frag → Bool)} {fn : List DfX} {K : Frag}
theorem SaysX.fst (c : SaysX fa fx fn K) : (fa.all fun f => f.ok K) = true ∧ (fx.all fun f => f K) = true ∧ (fn.all fun d => d.ok K) = true := by
  have z : ((fa.all fun f => f.ok K) && ((fx.all fun f => f K) && fn.all fun d => d.ok K)) = true := congrArg (fun z : AlX => z.1) c
  obtain ⟨a, b⟩ := He.ba z
  exact ⟨a, He.ba b⟩
theorem SaysX.fact (c : SaysX fa fx fn K) (i : Nat) {f : He.Fa} (h : fa[i]? = some f := by rfl) : f.ok K = true := List.all_eq_true.mp c.fst.1 f (List.mem_of_getElem? h)
theorem SaysX.more (c : SaysX fa fx fn K) (i : Nat) {f : Frag → Bool} (h : fx[i]? = some f := by rfl) : f K = true := List.all_eq_true.mp c.fst.2.1 f (List.mem_of_getElem? h)
theorem SaysX.fnv (c : SaysX fa fx fn K) (i : Nat) {d : DfX} (h : fn[i]? = some d := by rfl) : fnX K (d.ad K) = d.val := by
  have e : fn.map (fun d => fnX K (d.ad K)) = fn.map DfX.val := congrArg (fun z : AlX => z.2) c
  have e2 : (fn.map fun d => fnX K (d.ad K))[i]? = (fn.map DfX.val)[i]? := by rw [e]
  rw [List.getElem?_map, List.getElem?_map, h] at e2
  exact Option.some.inj e2
theorem SaysX.def_ (c : SaysX fa fx fn K) (i : Nat) {d : DfX} (h : fn[i]? = some d := by rfl) (hclo : d.clo = [] := by rfl) : ∃ fd, FunD K d.name d.qual d.params d.body d.scope (d.dvs K) (d.kws K) (d.ad K) fd := by
  have e : fn.map (fun d => fnX K (d.ad K)) = fn.map DfX.val := congrArg (fun z : AlX => z.2) c
  have e2 : (fn.map fun d => fnX K (d.ad K))[i]? = (fn.map DfX.val)[i]? := by rw [e]
  rw [List.getElem?_map, List.getElem?_map, h] at e2
  exact DfX.funD hclo (Option.some.inj e2) (List.all_eq_true.mp c.fst.2.2 d (List.mem_of_getElem? h))
end
end S
namespace S
open PySem PySem.Spec PyProof.Rows L2
/-! ### bool(x): by its truth -/
theorem isType_bool : isType (.type "bool") = (pure true : Sem Bool) := by first | rfl | kernel_rfl
theorem bool_tr {prog : Program} {w : World} {A : Around} {E : Value → Shared → Prop} {s : Shared} {x : Value} {Q : Value → Shared → Prop} (h : wpAny (model prog w) A.in1.in1 (truthy x) (fun b s' => Q (.bool b) s') E s) : wpAny (model prog w) A (call (.type "bool") [x]) Q E s := by
  refine callType_codes (T := "bool") (Bi := Builtin.«object.__init__») (Q₁ := fun r s₁ => ∃ b, r = Value.bool b ∧ Q r s₁) PySem.F.called_bool (PySem.F.typeCall_bool_1 _) PySem.F.entry_object_init ?_ ?_
  · refine codeAny_of_tree ?_
    show wpAny _ A.in1.in1 (do checkBuiltinCall "bool.__new__" ⟨[.type "bool", x], []⟩; again (.builtin "bool.__new__" ⟨[.type "bool", x], []⟩)) _ _ s
    refine wpAny_bind (wpAny_of_eq (PySem.F.newCall_bool_1 _) (wpAny_pure ⟨plainId_quiet (by decide +kernel) _, codeAny_builtin PySem.F.entry_bool_new ?_⟩))
    rw [Around.under_plainId (by decide +kernel) _]
    unfold Builtin.«bool.__new__»
    refine wpAny_bind (wpAny_of_eq (a := true) isType_bool ?_)
    refine PySem.W.KFB.if_not rfl ?_
    refine wpAny_bind (wpAny_of_eq (a := true) PySem.F.conv_sub_bool ?_)
    refine PySem.W.KFB.if_not rfl ?_
    refine wpAny_bind (wpAny_of_eq (a := [x]) (by first | rfl | kernel_rfl) ?_)
    refine wpAny_bind (wpAny_mono h (fun b s₁ hb => ?_) fun _ _ y => y)
    exact wpAny_pure ⟨b, rfl, hb⟩
  · rintro obj s₁ ⟨b, rfl, hq⟩
    exact ⟨PySem.typeIs_bool _ _, PySem.F.args_object_init_2 _ _, object_init_meets PySem.F.called_bool.init.lookup PySem.F.called_bool.made (by decide) prog w A.in1 _ s₁ ⟨PySem.typeIs_bool _ _, rfl, hq⟩⟩
def cBool (K : Frag) : List V → Hp → VK → Prop := fun xs H Q => match xs with
  | [.int i] => Q (.bl (decide (i ≠ 0))) H
  | [.bl b] => Q (.bl b) H
  | [.ref p] => Rd K H p fun ys => Q (.bl (decide (ys ≠ []))) H
  | _ => False
theorem c_bool {X : Cx} : CallR X (.type "bool") (cBool X.K) := by
  intro pins s σ H xs us Q I r h
  have hl := line63
  match xs, h with
  | [.int i], h =>
    obtain ⟨u, rfl, ⟨t, rfl⟩⟩ := r.one
    refine bool_tr (PySem.P.truthy_int ⟨.bl (i != 0), H, I, rfl, ?_⟩)
    have e : (i != 0) = decide (i ≠ 0) := by by_cases h : i = 0 <;> simp [h]
    rw [e]; exact h
  | [.bl b], h =>
    obtain ⟨u, rfl, rfl⟩ := r.one
    exact bool_tr (wpAny_truthy_bool ⟨.bl b, H, I, rfl, h⟩)
  | [.ref p], ⟨⟨ys, hx, h⟩⟩ =>
    obtain ⟨u, rfl, rfl⟩ := r.one
    have e : (!ys.isEmpty) = decide (ys ≠ []) := by cases ys <;> simp
    rcases hx with hx | hx
    · obtain ⟨its, rv, pl, hz⟩ := I.list hx
      have hlen := rv.length
      exact bool_tr (wpAny_truthy_list pl.isList (by simp only [List.size_toArray]; omega) ⟨.bl (!ys.isEmpty), H, I.tok _, by rw [isEmpty_of rv]; rfl, by rw [e]; exact h⟩)
    · obtain ⟨its, rv, pl, hz⟩ := I.tuple hx
      have hlen := rv.length
      exact bool_tr (truthy_tuple pl (by simp only [List.size_toArray]; omega) ⟨.bl (!ys.isEmpty), H, I.tok _, by rw [isEmpty_of rv]; rfl, by rw [e]; exact h⟩)
section
variable {X : Cx} {k : Nat} {g : Addr} {sp : Sp} {E : XK} {c m : Str} {ups : List Str} {tys : List String}
/-- the class's own def, called for an operator -/
theorem run_op {A : Around} {pins : List (Addr × Obj)} {σ : L2.St} {H : Hp} {s : Shared} {Q : VK} {us : List Value} {vs : List V} (F : FnR X.prog X.w X.K X.mg X.base (L2.CX X.prog X.w) k g sp) (hr : Room k A) (e0 : Env0 X.prog X.w X.K X.mg X.base A X.stack s H) (hx : ∀ σ, PassesAt (L2.CX X.prog X.w) X σ E)
    (I : Inv X pins σ H s) (r : Vals vs us) (h : sp vs H Q E) : wpAny (model X.prog X.w) A (call (.ref g) us) (EP X pins σ Q) X.xe s := by
  refine wpAny_call (codeAny_mono (F A X.stack s H us vs Q E hr e0 r h) fun r s' hq => ?_)
  cases r with
  | error e => exact hx σ pins H s e s' I hq
  | ok fl =>
    cases fl with
    | ret u => exact I.after hq
    | next => exact False.elim hq
    | brk => exact False.elim hq
    | cont => exact False.elim hq
/-- bool(x) of an instance with its own __bool__ -/
def cBoolO (K : Frag) (c : Str) (sp : Sp) (E : XK) : List V → Hp → VK → Prop := fun xs H Q => match xs with
  | [.ref p] => IsO K H c p (sp [.ref p] H (isB fun b H' => Q (.bl b) H') E)
  | _ => False
theorem c_boolO (hm : Meth X.K (He.ga X.K c) "__bool__" g) (F : FnR X.prog X.w X.K X.mg X.base (L2.CX X.prog X.w) k g sp) (hr : Room (k + 2) X.A) (hx : ∀ σ, PassesAt (L2.CX X.prog X.w) X σ E) : CallR X (.type "bool") (cBoolO X.K c sp E) := by
  intro pins s σ H xs us Q I r h
  match xs, h with
  | [.ref p], ⟨⟨dx, vs, hsl⟩, q⟩ =>
    obtain ⟨u, rfl, rfl⟩ := r.one
    obtain ⟨sl, od, _, J, _⟩ := SlX.slt_inst I hsl
    obtain ⟨m, hF⟩ := I.fr
    have hr2 : Room k X.A.in1.in1 := (show Room (k + 1) X.A.in1 from Room.in1 hr).in1
    refine bool_tr (PySem.W.truthy_K hF I.ok.mod.kin J hm.at_ hm.fn (wpAny_mono (run_op (us := [.ref p]) (vs := [.ref p]) F hr2 I.env0.in1.in1 hx I (.cons rfl .nil) q) (fun w s' z => ?_) fun _ _ x => x))
    obtain ⟨z', H', I', rz, qz⟩ := z
    obtain ⟨b, e, qz⟩ := isB_ex qz
    subst e
    cases rz
    exact ⟨.bl b, H', I', rfl, qz⟩
theorem mf_first (mf : MF X.K c ups tys) : PySem.W.selfFirst X.K (He.ga X.K c) = true := by
  obtain ⟨cd, e, _, hm⟩ := mf.cd
  unfold PySem.W.selfFirst
  rw [e, Option.any_some, hm]
  simp
/-- x op y, both instances of c, its own def; r: of other values -/
def oOwn (K : Frag) (c : Str) (sp : Sp) (E : XK) (r : R2) : R2 := fun x y H Q => match x, y with
  | .ref a, .ref b => IsO K H c a (IsO K H c b (sp [.ref a, .ref b] H Q E))
  | x, y => r x y H Q
theorem op_ownB {op : Operator} {r : R2} (mf : MF X.K c ups tys) (hm : Meth X.K (He.ga X.K c) (PySem.dunder op.info.2) g) (F : FnR X.prog X.w X.K X.mg X.base (L2.CX X.prog X.w) k g sp) (hr : Room k X.A) (hx : ∀ σ, PassesAt (L2.CX X.prog X.w) X σ E) (h0 : OpR X (binaryOp op) r) : OpR X (binaryOp op) (oOwn X.K c sp E r) := by
  intro pins s σ H x y v u Q I rx ry q
  have own : ∀ a b, x = .ref a → y = .ref b → IsO X.K H c a (IsO X.K H c b (sp [.ref a, .ref b] H Q E)) → wpAny (model X.prog X.w) X.A (binaryOp op v u) (EP X pins σ Q) X.xe s := by
    intro a b ex ey q
    subst ex ey
    cases rx
    cases ry
    obtain ⟨⟨dx, vs, hsl⟩, ⟨⟨dy, ws, hsl2⟩, q⟩⟩ := q
    obtain ⟨sl, od, _, J, _⟩ := SlX.slt_inst I hsl
    obtain ⟨sl', od', _, J', _⟩ := SlX.slt_inst I hsl2
    obtain ⟨m, hF⟩ := I.fr
    refine PySem.W.binop_K hF I.ok.mod.kin J J'.type (mf_first mf) hm.at_ hm.fn ?_
    refine wpAny_mono (run_op (us := [.ref a, .ref b]) (vs := [.ref a, .ref b]) F hr I.env0 hx I (.cons rfl (.cons rfl .nil)) q) (fun w s' z => ?_) fun _ _ x => x
    obtain ⟨z', H', I', rz, qz⟩ := z
    exact SlX.cmpback rz ⟨z', H', I', rz, qz⟩
  cases x <;> cases y <;> first | exact own _ _ rfl rfl q | exact h0 pins s σ H _ _ v u Q I rx ry q
/-- op x, an instance of c -/
def uOwn (K : Frag) (c : Str) (sp : Sp) (E : XK) : V → Hp → VK → Prop := fun x H Q => match x with
  | .ref a => IsO K H c a (sp [.ref a] H Q E)
  | _ => False
theorem u_inv (hm : Meth X.K (He.ga X.K c) "__invert__" g) (F : FnR X.prog X.w X.K X.mg X.base (L2.CX X.prog X.w) k g sp) (hr : Room k X.A) (hx : ∀ σ, PassesAt (L2.CX X.prog X.w) X σ E) : UnR X (unaryOp .Invert) (uOwn X.K c sp E) := by
  intro pins s σ H x v Q I rx q
  cases x <;> try exact q.elim
  cases rx
  obtain ⟨⟨dx, vs, hsl⟩, q⟩ := q
  obtain ⟨sl, od, _, J, _⟩ := SlX.slt_inst I hsl
  obtain ⟨m, hF⟩ := I.fr
  exact PySem.W.ksp_inv hF I.ok.mod.kin J hm.at_ hm.fn (run_op (us := [.ref _]) (vs := [.ref _]) F hr I.env0 hx I (.cons rfl .nil) q)
theorem u_negO (hm : Meth X.K (He.ga X.K c) "__neg__" g) (F : FnR X.prog X.w X.K X.mg X.base (L2.CX X.prog X.w) k g sp) (hr : Room k X.A) (hx : ∀ σ, PassesAt (L2.CX X.prog X.w) X σ E) : UnR X (unaryOp .USub) (uOwn X.K c sp E) := by
  intro pins s σ H x v Q I rx q
  cases x <;> try exact q.elim
  cases rx
  obtain ⟨⟨dx, vs, hsl⟩, q⟩ := q
  obtain ⟨sl, od, _, J, _⟩ := SlX.slt_inst I hsl
  obtain ⟨m, hF⟩ := I.fr
  exact PySem.W.ksp_neg hF I.ok.mod.kin J hm.at_ hm.fn (run_op (us := [.ref _]) (vs := [.ref _]) F hr I.env0 hx I (.cons rfl .nil) q)
/-- x == y: of instances of c by its own def; of data -/
structure EqOr (K : Frag) (c : Str) (H : Hp) (a b : Addr) (P : Prop) (k : Bool → Prop) : Prop where
  ex : (IsO K H c a (IsO K H c b P)) ∨ EqD K H (.ref a) (.ref b) k
theorem EqOr.own {K : Frag} {c : Str} {H : Hp} {a b dx dy : Addr} {P : Prop} {k : Bool → Prop} {vs ws : List (Option V)} (h : SlX.Slt H a (He.ga K c) dx vs) (h2 : SlX.Slt H b (He.ga K c) dy ws) (q : P) : EqOr K c H a b P k := ⟨.inl (.of h (.of h2 q))⟩
theorem EqOr.dat {K : Frag} {c : Str} {H : Hp} {a b : Addr} {P : Prop} {k : Bool → Prop} (h : EqD K H (.ref a) (.ref b) k) : EqOr K c H a b P k := ⟨.inr h⟩
def oEqO (K : Frag) (c : Str) (sp : Sp) (E : XK) : R2 := fun x y H Q => match x, y with
  | .ref a, .ref b => EqOr K c H a b (sp [.ref a, .ref b] H Q E) fun k => Q (.bl k) H
  | x, y => oEq K x y H Q
theorem op_eqO (hm : Meth X.K (He.ga X.K c) "__eq__" g) (F : FnR X.prog X.w X.K X.mg X.base (L2.CX X.prog X.w) k g sp) (hr : Room k X.A) (hx : ∀ σ, PassesAt (L2.CX X.prog X.w) X σ E) : OpR X (compareOp .Eq) (oEqO X.K c sp E) := by
  intro pins s σ H x y v u Q I rx ry q
  have own : ∀ a b, x = .ref a → y = .ref b → (IsO X.K H c a (IsO X.K H c b (sp [.ref a, .ref b] H Q E))) → wpAny (model X.prog X.w) X.A (compareOp .Eq v u) (EP X pins σ Q) X.xe s := by
    intro a b ex ey q1
    clear q
    subst ex ey
    cases rx
    cases ry
    obtain ⟨⟨dx, vs, hsl⟩, ⟨⟨dy, ws, hsl2⟩, q⟩⟩ := q1
    obtain ⟨sl, od, _, J, _⟩ := SlX.slt_inst I hsl
    obtain ⟨sl', od', _, J', _⟩ := SlX.slt_inst I hsl2
    obtain ⟨m, hF⟩ := I.fr
    show wpAny _ _ (richCompare .Eq (.ref a) (.ref b)) _ _ _
    refine PySem.W.cmp_K (op := .Eq) (tb := .ref (He.ga X.K c)) hr.units0 hF I.ok.mod.kin J J'.type (by unfold PySem.W.notFirst; simp) hm.at_ hm.fn ?_
    refine wpAny_mono (run_op (us := [.ref a, .ref b]) (vs := [.ref a, .ref b]) F hr I.env0 hx I (.cons rfl (.cons rfl .nil)) q) (fun w s' z => ?_) fun _ _ x => x
    obtain ⟨z', H', I', rz, qz⟩ := z
    exact SlX.cmpback rz ⟨z', H', I', rz, qz⟩
  have h0 : OpR X (compareOp .Eq) (oEq X.K) := o_eq hr.units
  cases x <;> cases y <;> first
    | (refine Or.elim (EqOr.ex q) (fun q1 => own _ _ rfl rfl q1) fun q1 => h0 pins s σ H _ _ v u Q I rx ry q1)
    | exact h0 pins s σ H _ _ v u Q I rx ry q
end
def oNo : R2 := fun _ _ _ _ => False
theorem o_no {X : Cx} {f : Value → Value → Sem Value} : OpR X f oNo := fun _ _ _ _ _ _ _ _ _ _ _ _ h => h.elim
/-! ### tuples of the module -/
def TupG (K : Frag) (x : Str) (vs : List V) : Prop := ∀ H, SqT K H (He.ga K x) vs
theorem tupG_ok {K : Frag} {x : Str} {vs : List He.Dv} (h : He.tupB K x vs = true) : TupG K x (vs.map (He.Dv.v K)) := fun H => He.tupB_ok h H
end S
namespace S
open PySem PySem.Spec PyProof.Rows L2
/-! ### enumerate over a tuple -/
set_option maxHeartbeats 4000000 in
theorem meets_enum1 {v : Value} {o : Obj} {H : Heap → Prop} (B : Begins v o H) :
    Meets (Builtin.«enumerate.__new__» ⟨[.type "enumerate", v], []⟩) (fun _ R s => H s.heap ∧
      R (.ok (.ret (.ref (s.heap.push o).objs.size))) { s with heap := (s.heap.push o).push { cls := .type "enumerate", data := .fields #[.none, .bool false, .ref s.heap.objs.size, rawInt 0, .none, .none] } }) :=
  .of_wp fun prog w A R s h => by
    obtain ⟨hp, g, d, tk, os⟩ := s; obtain ⟨h1, h⟩ := h
    have hsub := sub_enumerate
    have q1 : ∀ {A' : Around} {E : Value → Shared → Prop} {Q : Value → Shared → Prop}, Q (.ref hp.objs.size) ⟨hp.push o, g, d, tk, os⟩ → wpAny (model prog w) A' (pyIter v) Q E ⟨hp, g, d, tk, os⟩ :=
      fun q => B.iter prog w _ _ ⟨hp, g, d, tk, os⟩ _ h1 q
    wp_walk using q1
    refine wpAny_stack_any fun st => wpAny_pure ?_
    split
    · rename_i c _ _ _ _ _
      cases (c == Value.type "enumerate")
      · wp_walk using q1
        exact ⟨_, rfl, h⟩
      · wp_walk using q1
        exact ⟨_, rfl, h⟩
    · wp_walk using q1
      exact ⟨_, rfl, h⟩
theorem enum_begins1 {prog : Program} {w : World} {A : Around} {E : Value → Shared → Prop} {s : Shared} {v : Value} {o : Obj} {H : Heap → Prop} {Q : Value → Shared → Prop} (B : Begins v o H) (h1 : H s.heap)
    (h : ∀ h', IsEnum h' (s.heap.objs.size + 1) s.heap.objs.size 0 .none → h'.get? s.heap.objs.size = some o → h'.objs.size = s.heap.objs.size + 2 →
      (∀ b o, s.heap.get? b = some o → h'.get? b = some o) → Q (.ref (s.heap.objs.size + 1)) { s with heap := h' }) :
    wpAny (model prog w) A (call (.type "enumerate") [v]) Q E s := by
  refine callType_new F.called_enumerate (by decide) (F.typeCall_enumerate_1 _) (F.newCall_enumerate_1 _) (fun obj => F.args_object_init_2 obj _) F.entry_enumerate_new
    (meets_enum1 B) ⟨h1, ?_⟩
  have hz : (s.heap.push o).objs.size = s.heap.objs.size + 1 := Heap.size_push ..
  show _ ∧ _
  rw [hz]
  have he : IsEnum ((s.heap.push o).push { cls := .type "enumerate", data := .fields #[.none, .bool false, .ref s.heap.objs.size, rawInt 0, .none, .none] }) (s.heap.objs.size + 1) s.heap.objs.size 0 .none := by
    have := Heap.get?_push_size (s.heap.push o) (o := { cls := .type "enumerate", data := .fields #[.none, .bool false, .ref s.heap.objs.size, rawInt 0, .none, .none] }) rfl
    rw [hz] at this; exact this
  refine ⟨⟨_, he, rfl⟩, h _ he (Heap.get?_push_of_some _ (Heap.get?_push_size _ B.free)) (by rw [Heap.size_push, hz]) fun b o x => Heap.get?_push_of_some _ (Heap.get?_push_of_some _ x)⟩
/-- the tuple at a, each item in a new pair -/
def Iet (K : Frag) (a : Addr) : It :=
  ⟨fun i H => ∃ (xs : List V) (x : V), SqT K H a xs ∧ xs[i]? = some x, fun i H v H' => ∃ T x, v = .ref T ∧ H T = none ∧ H' = upd H T (.tup [.int (i : Nat), x]) ∧ ∀ xs, SqT K H a xs → xs[i]? = some x, fun i H => ∃ xs : List V, SqT K H a xs ∧ xs.length ≤ i⟩
theorem enum_endT {prog : Program} {w : World} {A : Around} {E : Value → Shared → Prop} {s : Shared} {e it l : Addr} {i : Nat} {c : Int} {items : Array Value} {old : Value} {Q : Option Value → Shared → Prop} (hh : A.handled = none)
    (he : IsEnum s.heap e it c old) (hit : s.heap.IsTupleIter it l i) (hl : s.heap.IsTuple l items) (hx : items[i]? = none)
    (hQ : ∀ h', Heap.ExtBut it s.heap h' → Q none { s with heap := h' }) : wpAny (model prog w) A (pyNext (.ref e)) Q E s := by
  have hT : s.TypeIs (.ref e) "enumerate" := ⟨_, he, rfl⟩
  unfold pyNext
  refine wpAny_bind (wpAny_attempt (wpAny_callSpecial?_slot (name := Str.ofString "__next__") hT F.slot_enumerate_next
    (wpAny_call_entry F.slot_enumerate_next hT F.entry_enumerate_next ?_ (F.args_enumerate_next_1 _))))
  show wpAny _ _ (field (.ref e) 2 >>= _) _ _ _
  refine wpAny_bind (wpAny_field he rfl (x := .ref it) rfl ?_)
  refine wpAny_bind (wpAny_nextOf_tuple_end hh hit hl hx fun h' x he' hx' => ?_)
  obtain ⟨o, ho, hc⟩ := hx'
  refine wpAny_bind (wpAny_isInstance (T := "StopIteration") (b := true) ⟨o, ho, hc⟩ isSubtype_stop ?_)
  exact wpAny_pure (hQ _ he')
theorem turn_enumT {P : Program} {w : World} {K : Frag} {elts : List Expr} {kk : Nat} {tpos : Pos} (a e it : Addr) :
    Turn P w K (.Tuple elts kk tpos) (Iet K a) [e, it] e (fun i h => (∃ old, IsEnum h e it ((i : Nat) : Int) old) ∧ h.IsTupleIter it a i ∧ e ≠ it) where
  mem := by simp
  obj := fun i h st b hb => by
    obtain ⟨⟨old, he⟩, ⟨o, ho, hc, hd⟩, _⟩ := st
    have e' : b = e ∨ b = it := by simpa using hb
    rcases e' with z | z
    · rw [z]; exact ⟨_, he, fun v q => nomatch q⟩
    · rw [z]; exact ⟨o, ho, fun v q => by rw [hd] at q; cases q⟩
  keep := fun i h h' st k => let ⟨⟨old, he⟩, hi, hne⟩ := st; ⟨⟨old, k e (by simp) _ he⟩, hi.at fun o q => k it (by simp) o q, hne⟩
  item := by
    intro X hP hw hK hc i pins s σ H E I hf st hg
    subst hP hw hK
    obtain ⟨⟨old, he⟩, hit, hne⟩ := st
    obtain ⟨xs, x, hq, hx⟩ := hg
    obtain ⟨its, rv, p, hz⟩ := I.tuple hq
    have ht : s.heap.IsTuple a its.toArray := p
    obtain ⟨u, hu, ru⟩ := rv.get hx
    have hel : e < s.heap.objs.size := Heap.lt_size he
    have hil : it < s.heap.objs.size := by obtain ⟨_, q, _⟩ := hit; exact Heap.lt_size q
    have hat : a ≠ it := by
      rintro rfl
      obtain ⟨o1, e1, c1, _⟩ := hit
      obtain ⟨o2, e2, c2, _⟩ := ht
      rw [e1] at e2; cases e2
      rw [c1] at c2; exact absurd c2 (by simp)
    have hae : e ≠ a := by
      rintro rfl
      obtain ⟨o2, e2, c2, _⟩ := ht
      rw [show s.heap.get? e = _ from he] at e2; cases e2
      exact absurd c2 (by simp)
    have D := Draws.tuple (prog := X.prog) (w := X.w) (A := X.A.in1) (show X.A.in1.handled = none from I.ok.hd hc) it a hat its.toArray
    have hlt : i < its.toArray.size := by
      have := rv.length
      obtain ⟨h1, _⟩ := List.getElem?_eq_some_iff.mp hx
      simp; omega
    refine wpAny_pyNext_enum_itemC D he ⟨hit, ht⟩ hlt hne (by simp; exact ⟨hne, hae⟩) fun u2 h' tk hP ho hst hT hsz hk => ?_
    have eu : u2 = u := by
      have h1 : its.toArray[i]? = some u2 := hP
      rw [List.getElem?_toArray] at h1
      rw [hu] at h1
      exact (Option.some.inj h1).symm
    subst eu
    refine ⟨_, rfl, wpAny_letOwnedTupleGo_enum (s := { s with heap := h', toks := tk + 1 }) ho fun h'' he' sb => ?_⟩
    have hT2 : h''.get? s.heap.objs.size = some { cls := .type "tuple", data := .seq #[.int i tk, u2] } := (sb.2 _ (Nat.ne_of_gt hel)).trans hT
    have new : ObjOk X.prog X.w (upd H s.heap.objs.size (.tup [.int (i : Nat), x])) h'' s.heap.objs.size (.tup [.int (i : Nat), x]) :=
      ⟨by show 2 ≤ sizeLine; decide, [.int i tk, u2], .cons ⟨_, rfl⟩ (.cons ru .nil), ⟨_, hT2, rfl, _, rfl⟩⟩
    have I1 : Inv X pins σ (upd H s.heap.objs.size (.tup [.int (i : Nat), x])) { s with heap := h'', toks := tk + 1 } :=
      I.turnedNew (ch := [e, it]) (fun b ob hb q => (sb.2 b (fun z => hb (by simp [z]))).trans (hk b ob (fun z => hb (by simp [z])) (fun z => hb (by simp [z])) q)) hf (Nat.le_refl _) new
    refine ⟨.ref s.heap.objs.size, _, I1, rfl, ⟨_, x, rfl, I.hok.fresh (Nat.le_refl _), rfl, fun ys hy => by rw [I.tuple_inj hy hq]; exact hx⟩, ⟨⟨u2, ?_⟩, hst.1.at fun o q => (sb.2 it (Ne.symm hne)).trans q, hne⟩, fun b hb => ?_⟩
    · have e1 : ((i + 1 : Nat) : Int) = (i : Int) + 1 := by omega
      rw [e1]; exact he'
    · have hb' : b < s.heap.objs.size := by
        have e' : b = e ∨ b = it := by simpa using hb
        rcases e' with z | z
        · rw [z]; exact hel
        · rw [z]; exact hil
      rw [upd_ne (Nat.ne_of_lt hb')]
      exact (hf b hb).1
  done := by
    intro X hP hw hK hc i pins s σ H E I hf st hg
    subst hP hw hK
    obtain ⟨⟨old, he⟩, hit, hne⟩ := st
    obtain ⟨xs, hq, hx⟩ := hg
    obtain ⟨its, rv, p, hz⟩ := I.tuple hq
    have ht : s.heap.IsTuple a its.toArray := p
    obtain ⟨f0, f1, f2, f3, f4, f5⟩ := hf it (by simp)
    have hl := rv.length
    exact enum_endT (I.ok.hd hc) he hit ht (by simp; omega) fun h' eb => ⟨rfl, I.turned (t' := s.toks) (fun b o hb q => eb b o hb q) f0 f1 f3 f4 f5⟩
  self := fun A i s Q E st h => let ⟨⟨_, he⟩, _⟩ := st; wpAny_pyIter_enum he h
/-- over the tuple at p -/
structure EnW (K : Frag) (H : Hp) (p : Addr) (R : It → Hp → Prop) : Prop where
  ex : ∃ xs, SqT K H p xs
  go : R (Iet K p) H
def iEn (K : Frag) (ta : TE) : TI := fun σ H R => ta σ H fun x H1 => match x with
  | .ref p => EnW K H1 p R
  | _ => False
theorem pi_en {X : Cx} {e : Expr} {ta : TE} {p pos tpos : Pos} {elts : List Expr} {kk : Nat} (hm : X.mg "enumerate" = none) (ha : PE X e ta) (hg : Gl X "enumerate" := by rfl) (hs : starEach [e] X.env = [(false, eval e X.env)] := by rfl) :
    PI X (.Tuple elts kk tpos) (.Call (.Name "enumerate" p) [e] [] pos) (iEn X.K ta) := by
  refine ⟨fun pins s σ H R I h => ?_⟩
  have hA : PA X [e] (tCons ta tNil) := pa_cons ha pa_nil hs
  refine Call_ (ld_blt I hg hm boot_enumerate (PyProof.Rows.callWith_type1 (thn (hA.run pos pins s σ H (fun vs H1 => ∃ a xs, vs = [V.ref a] ∧ SqT X.K H1 a xs ∧ R (Iet X.K a) H1) I ?hq) fun us s1 ⟨vs, H1, I1, r1, q1⟩ => ?_) hs rfl))
  case hq =>
    show ta σ H fun x H1 => _
    have key : ∀ (x : V) (H1 : Hp), (match x with | .ref p => EnW X.K H1 p R | _ => False) → (tNil σ H1 fun xs H2 => ∃ a ys, x :: xs = [V.ref a] ∧ SqT X.K H2 a ys ∧ R (Iet X.K a) H2) := by
      intro x H1 q
      cases x <;> try exact q.elim
      obtain ⟨⟨xs, hx⟩, q⟩ := q
      exact ⟨_, xs, rfl, hx, q⟩
    have e : (fun (x : V) (H1 : Hp) => (match x with | .ref p => EnW X.K H1 p R | _ => False)) = fun x H1 => (tNil σ H1 fun xs H2 => ∃ a ys, x :: xs = [V.ref a] ∧ SqT X.K H2 a ys ∧ R (Iet X.K a) H2) := by
      funext x H1
      refine propext ⟨key x H1, fun ⟨a, ys, e, hy, q⟩ => ?_⟩
      have e2 : x = .ref a := (List.cons.inj e).1
      subst e2
      exact ⟨⟨ys, hy⟩, q⟩
    rw [← e]
    exact h
  obtain ⟨a, xs, ex, hq, q⟩ := q1
  subst ex
  cases r1 with
  | cons r rr =>
    cases rr
    cases r
    obtain ⟨its, rv, p', hz⟩ := I1.tuple hq
    refine enum_begins1 (begins_tuple a its.toArray) (show s1.heap.IsTuple a its.toArray from p') fun h' he hit hsz hk => wpAny_pyIter_enum he ?_
    have I2 : Inv X pins σ H1 { s1 with heap := h' } := I1.kept (t' := s1.toks) hk
    refine ⟨s1.heap.objs.size + 1, [s1.heap.objs.size + 1, s1.heap.objs.size], _, _, H1, rfl, I2, turn_enumT a (s1.heap.objs.size + 1) s1.heap.objs.size, ⟨⟨.none, he⟩, ⟨_, hit, rfl, rfl⟩, Nat.succ_ne_self _⟩, fun b hb => ?_, q⟩
    have e' : b = s1.heap.objs.size + 1 ∨ b = s1.heap.objs.size := by simpa using hb
    have hle : s1.heap.objs.size ≤ b := by
      rcases e' with z | z
      · rw [z]; exact Nat.le_add_right _ _
      · rw [z]; exact Nat.le_refl _
    exact I1.fpOk hle (I1.hok.fresh hle)
/-- a loop over them: each pair is new -/
theorem for_en {K : Frag} {p : Addr} {xs : List V} {g : TG} {tb : TS} {D : Ends} {σ : L2.St} {H : Hp} (Pv : Nat → L2.St → Hp → Prop) (hx : SqT K H p xs) (h0 : Pv 0 σ H) (hl : ∀ i σ H', i ≤ xs.length → Pv i σ H' → SqT K H' p xs)
    (hs : ∀ (i : Nat) x σ H, xs[i]? = some x → Pv i σ H → ∀ T, H T = none → g (.ref T) σ (upd H T (.tup [.int (i : Int), x])) fun σ2 H2 => tb { D with nx := Pv (i + 1), ct := Pv (i + 1), bk := D.nx } σ2 H2) (hd : ∀ σ H, Pv xs.length σ H → D.nx σ H) :
    EnW K H p (LoopR D g tb σ) := by
  refine ⟨⟨xs, hx⟩, fun i m σ H => i ≤ xs.length ∧ m = xs.length - i ∧ Pv i σ H, ⟨_, Nat.zero_le _, rfl, h0⟩, ?_⟩
  rintro i m σ H ⟨hi, rfl, hp⟩
  have hq := hl i σ H hi hp
  by_cases hlt : i < xs.length
  · have hxi : xs[i]? = some xs[i] := List.getElem?_eq_getElem hlt
    refine .inr ⟨⟨xs, _, hq, hxi⟩, Pv (i + 1), fun σ' H' q => ⟨_, by omega, by omega, rfl, q⟩, ?_⟩
    rintro v H' ⟨T, y, rfl, hT, rfl, hy⟩
    have e := hy xs hq
    exact hs i y σ H e hp T hT
  · have e : i = xs.length := by omega
    subst e
    exact .inl ⟨⟨xs, hq, Nat.le_refl _⟩, hd _ _ hp⟩
/-- x in a list or tuple of scalars -/
def oIn (K : Frag) : R2 := fun x y H Q => match y with
  | .ref p => Rd K H p fun xs => Need (flatV x = true ∧ xs.all flatV = true) (Q (.bl (inV x xs)) H)
  | _ => False
def oNin (K : Frag) : R2 := fun x y H Q => match y with
  | .ref p => Rd K H p fun xs => Need (flatV x = true ∧ xs.all flatV = true) (Q (.bl (!inV x xs)) H)
  | _ => False
theorem o_in {X : Cx} : OpR X (compareOp .In) (oIn X.K) := OpR.of op_in_seq fun x y H Q q => by
  cases y <;> try exact q.elim
  obtain ⟨⟨xs, hx, ⟨⟨f1, f2⟩, q⟩⟩⟩ := q
  exact ⟨_, xs, rfl, hx, f1, f2, q⟩
theorem o_nin {X : Cx} : OpR X (compareOp .NotIn) (oNin X.K) := OpR.of op_notIn_seq fun x y H Q q => by
  cases y <;> try exact q.elim
  obtain ⟨⟨xs, hx, ⟨⟨f1, f2⟩, q⟩⟩⟩ := q
  exact ⟨_, xs, rfl, hx, f1, f2, q⟩
theorem inV_int (i : Int) (ns : List Int) : inV (.int i) (ns.map V.int) = decide (i ∈ ns) := by
  induction ns with
  | nil => rfl
  | cons x r ih =>
    show (eqV (.int x) (.int i) || inV (.int i) (r.map V.int)) = _
    rw [ih]
    have e : eqV (.int x) (.int i) = decide (i = x) := by
      show (x == i) = _
      by_cases h : i = x
      · subst h; simp
      · rw [decide_eq_false h, beq_eq_false_iff_ne]; exact fun z => h z.symm
    rw [e]
    by_cases h : i = x <;> by_cases h2 : i ∈ r <;> simp [h, h2]
theorem flat_ints (ns : List Int) : (ns.map V.int).all flatV = true := by
  induction ns with
  | nil => rfl
  | cons x r ih => rw [List.map_cons, List.all_cons, ih]; rfl
/-- sorted(a list of numbers) -/
structure Srt (K : Frag) (H : Hp) (p : Addr) (Q : V → Hp → Prop) : Prop where
  ex : ∃ ns : List Int, SqL K H p (ns.map V.int) ∧ ∀ (ns' : List Int) (q : Addr), ns'.Perm ns → ns'.Pairwise (· ≤ ·) → H q = none → Q (.ref q) (upd H q (.lst (ns'.map V.int)))
def cSorted (K : Frag) : List V → Hp → VK → Prop := fun xs H Q => match xs with
  | [.ref p] => Srt K H p Q
  | _ => False
theorem c_sorted {X : Cx} : CallR X (.builtin "sorted") (cSorted X.K) := CallR.of cr_sortedI fun xs H Q q => by
  match xs, q with
  | [.ref p], ⟨⟨ns, h1, h2⟩⟩ => exact ⟨p, ns, rfl, h1, h2⟩
/-- code that is never reached: its reading asks for the impossible -/
def dNo : TS := fun _ _ _ => False
theorem ps_no {X : Cx} {e : Stmt} : PS X e dNo := ⟨fun _ _ _ _ _ _ h => h.elim⟩
end S
namespace S
open PySem PySem.Spec PyProof.Rows L2
/-! ### number * number, list * number -/
def oMulA : R2 := fun x y H Q => match x, y with
  | .int i, .int j => Need (CMul i j) (Q (.int (i * j)) H)
  | .ref l, .int k => Ls H l fun xs => Need (-(2 ^ 63) ≤ k ∧ k < 2 ^ 63 ∧ xs.length * k.toNat ≤ sizeLine) (NewL H (List.replicate k.toNat xs).flatten Q)
  | _, _ => False
theorem o_mulA {X : Cx} : OpR X (binaryOp .Mult) oMulA := OpR.of (op_mul.or op_rep) fun x y H Q q => by
  cases x <;> cases y <;> try exact q.elim
  · exact .inl ⟨_, _, rfl, rfl, q.c, q.q⟩
  · obtain ⟨⟨xs, h, ⟨⟨h1, h2, h3⟩, ⟨q⟩⟩⟩⟩ := q
    exact .inr ⟨_, _, xs, rfl, rfl, h, h1, h2, h3, q⟩
/-! ### staticmethods -/
structure StF (K : Frag) (c m : Str) : Prop where
  rd : PySem.W.readsIn K (He.ga K c) (.type "type") = true
  ga : PySem.W.specialIn K (.ref (He.ga K c)) "__getattribute__" = some (some (.builtin "type.__getattribute__"))
  at_ : PySem.W.findCls K (.ref (He.ga K c)) (.type "type") m = some (.get (.builtin "staticmethod.__get__") (.ref (He.ma K (He.ga K c) m)) .none (.ref (He.ga K c)))
  rc : ∃ rest, PySem.W.recIn K (He.ma K (He.ga K c) m) "staticmethod" = some (.ref (uA K c m) :: rest)
  kp : PySem.W.keepIn K (.ref (uA K c m)) = true
def statB (c m : Str) (K : Frag) : Bool := PySem.W.readsIn K (He.ga K c) (.type "type") && (He.eqO (PySem.W.specialIn K (.ref (He.ga K c)) "__getattribute__") (some (some (.builtin "type.__getattribute__"))) &&
  ((match PySem.W.findCls K (.ref (He.ga K c)) (.type "type") m with
    | some (.get (.builtin g) (.ref p) .none (.ref D)) => decide (g = "staticmethod.__get__") && (decide (p = He.ma K (He.ga K c) m) && decide (D = He.ga K c))
    | _ => false) && ((match PySem.W.recIn K (He.ma K (He.ga K c) m) "staticmethod" with
    | some (.ref g :: _) => decide (g = uA K c m)
    | _ => false) && PySem.W.keepIn K (.ref (uA K c m)))))
theorem statB_ok {K : Frag} {c m : Str} (h : statB c m K = true) : StF K c m := by
  obtain ⟨h1, h⟩ := He.ba h
  obtain ⟨h2, h⟩ := He.ba h
  obtain ⟨h3, h⟩ := He.ba h
  obtain ⟨h4, h5⟩ := He.ba h
  refine ⟨h1, He.eqO_ok h2, ?_, ?_, h5⟩
  · clear h4
    split at h3
    · rename_i g p D e
      obtain ⟨k1, k⟩ := He.ba h3
      obtain ⟨k2, k3⟩ := He.ba k
      rw [e, of_decide_eq_true k1, of_decide_eq_true k2, of_decide_eq_true k3]
    · cases h3
  · clear h3
    split at h4
    · rename_i g r e
      rw [of_decide_eq_true h4] at e
      exact ⟨r, e⟩
    · cases h4
section
variable {X : Cx} {k : Nat} {sp : Sp} {E : L2.St → XK} {c m : Str} {pos apos : Pos} {o e : Expr} {es : List Expr} {t : TA}
theorem getstat_ok {pins : List (Addr × Obj)} {σ : L2.St} {H : Hp} {s : Shared} {A : Around} {E : Value → Shared → Prop} {pl : Sem Bool} {Q : Value × List Value → Shared → Prop} (I : Inv X pins σ H s) (r : StF X.K c m) (h : ∀ s', Inv X pins σ H s' → Q (.ref (uA X.K c m), []) s') :
    wpAny (model X.prog X.w) A (getMethod (.ref (He.ga X.K c)) m pl) Q E s := by
  obtain ⟨rest, hp⟩ := r.rc
  refine PySem.W.method_cls I.kIn r.ga (PySem.W.cls_bind I.kIn r.rd r.at_ ?_)
  refine wpAny_call (PySem.W.sm_get (s := { s with toks := s.toks + 1 }) I.kIn hp (PySem.W.handed_on rfl ?_))
  exact h _ (I.tok _)
/-- C.m(e, ..), m a staticmethod -/
def dStat (K : Frag) (sp : Sp) (E : L2.St → XK) (t : TA) : TE := fun σ H Q => t σ H fun vs H1 => sp vs H1 Q (E σ)
theorem pe_stat {pl : Sem Bool} (r : StF X.K c m) (F : FnR X.prog X.w X.K X.mg X.base (L2.CX X.prog X.w) k (uA X.K c m) sp) (hr : Room k X.A) (hx : ∀ σ, PassesAt (L2.CX X.prog X.w) X σ (E σ)) (he : PE X o (tC (.ref (He.ga X.K c)))) (ha : PA X (e :: es) t)
    (hst : starEach (e :: es) X.env = (false, eval e X.env) :: starEach es X.env := by rfl) (hpl : (backTo pos (starEach es X.env)).any (·.1) = false := by rfl)
    (ht : eval (.Call (.Attribute o m apos) (e :: es) [] pos) X.env = (do
      let ov ← eval o X.env
      standAt apos.atName
      let (f, first) ← holding [ov] (getMethod ov m pl)
      callWith pos f first (backTo pos (starEach (e :: es) X.env)) (backToKw pos (keywordEach [] X.env))) := by rfl) :
    PE X (.Call (.Attribute o m apos) (e :: es) [] pos) (dStat X.K sp E t) := by
  refine ⟨fun pins s σ H Q I h => ?_⟩
  refine PySem.W.methodCall_KW (pl := pl) (thn (he.run pins s σ H (fun x H1 => x = .ref (He.ga X.K c) ∧ t σ H1 fun vs H2 => sp vs H2 Q (E σ)) I ⟨rfl, h⟩) fun u s1 ⟨x, H1, I1, rx, ex, q⟩ => ?_) ht
  subst ex
  cases rx
  refine getstat_ok I1 r fun s2 I2 => ?_
  refine PySem.W.callWith_K (first := []) (h₀ := X.base) I2.ok.mod.kin r.kp (thn (ha.run pos pins s2 σ H1 _ I2 q) fun us s3 ⟨ws, H2, I3, r3, q2⟩ => ⟨I3.kIn, ?_⟩) hst hpl
  exact run_R F hr (hx σ) I3 r3 q2
end
end S
namespace S
open PySem PySem.Spec PyProof.Rows L2
/-! ### exceptions with an own __init__ over super().__init__ -/
def oexB (c : Str) (K : Frag) : Bool := (match K.lookup (He.ga K c) with
  | some ⟨.type "type", _, .cls cd, sl⟩ => (match cd.mro, sl.toList with
    | .ref C' :: bm, [_, _, _, _, some (.builtin n), _] => C' == He.ga K c && n == "ValueError.__new__" && !cd.hasDel && cd.hasDict && PySem.HandSPX.refsVE bm
    | _, _ => false)
  | _ => false) && (He.eqO (PySem.W.findIn K (.ref (He.ga K c)) "__setattr__") (some (some (.builtin "object.__setattr__"))) && (decide (PySem.W.subIn K (.ref (He.ga K c)) (.type "BaseException") = some true) &&
    (decide (PySem.W.typeIn K (.ref (He.ga K c)) = some (.type "type")) && PySem.W.keepIn K (.ref (He.ga K c)))))
theorem oexB_ok {K : Frag} {c : Str} (h : oexB c K = true) : OexC K (He.ga K c) := by
  obtain ⟨h1, h⟩ := He.ba h
  obtain ⟨h2, h⟩ := He.ba h
  obtain ⟨h3, h⟩ := He.ba h
  obtain ⟨h4, h5⟩ := He.ba h
  refine ⟨?_, He.eqO_ok h2, of_decide_eq_true h3, of_decide_eq_true h4, h5⟩
  clear h2 h3 h4 h5 h
  split at h1
  · rename_i dd cd sl ho
    split at h1
    · rename_i C' bm k0 k1 k2 k3 n k5 hm hs
      simp only [Bool.and_eq_true, beq_iff_eq, Bool.not_eq_true'] at h1
      obtain ⟨⟨⟨⟨e1, rfl⟩, hdel⟩, hd⟩, ht⟩ := h1
      obtain ⟨nm, bs, mro, ns, qn, hdc, sn, sub, ab, col, del⟩ := cd
      dsimp only at hm hdel hd
      subst hm hdel hd
      have hsl : sl = #[k0, k1, k2, k3, some (.builtin "ValueError.__new__"), k5] := by
        obtain ⟨l⟩ := sl
        simp only at hs
        rw [hs]
      subst hsl
      exact ⟨nm, qn, ns, bs, bm, sn, sub, ab, col, dd, k0, k1, k2, k3, k5, by rw [ho, e1], ht⟩
    · cases h1
  · cases h1
/-- what the written part says of such a class: fI its __init__ -/
structure XiF (P : Program) (K : Frag) (c fld nm qual : Str) (params : Arguments) (body : List Stmt) (scope : Scope) (fI : Addr) (fd : FuncData) : Prop where
  fn : ∃ oc od osl kV doc pm an cda ct cc, fd = PySem.W.ksFn nm qual params body scope .none kV doc pm an (.ref cda) ct cc ∧ K.lookup fI = some ⟨oc, od, .func fd, osl⟩ ∧ PySem.W.codeIn K (.ref cda) qual = true ∧
    (∃ cl cld csl, K.lookup cc = some ⟨cl, cld, .cell (some (.ref (He.ga K c))), csl⟩) ∧ ∃ ccl cdd vs ccs file tf, K.lookup cda = some ⟨ccl, cdd, .fields vs, ccs⟩ ∧ vs[2]? = some (.str file tf) ∧ ((P.main.file : Str) == file) = true
  sub : PySem.W.mroIn K (He.ga K c) (.ref (He.ga K c)) = some true
  sup : PySem.W.ks_superIn K (He.ga K c) (He.ga K c) "__init__" = some (some (.builtin "ValueError.__init__"))
  ve : PySem.W.subIn K (.ref (He.ga K c)) (.type "ValueError") = some true
  st : PySem.W.nsIn K cStatics "thirdparty.any" = some none
  oex : OexC K (He.ga K c)
  no : PySem.W.findIn K (.ref (He.ga K c)) fld = some none
  ini : PySem.W.findIn K (.ref (He.ga K c)) "__init__" = some (some (.ref fI))
  tI : PySem.W.typeIn K (.ref fI) = some (.type "function")
  top : (P.main.scope.names.lookup ("super" : Str)).isSome = false
/-- the promise: the field is kept -/
def spXi (K : Frag) (c fld : Str) : Sp := fun vs H Q _ => ∃ (a : Addr) (v : V), vs = [.ref a, v] ∧ H a = some (exo a (He.ga K c) none) ∧ ∀ dx, H dx = none → dx ≠ a → Q .non (upd (upd H dx (exd dx [(fld, v)])) a (exo a (He.ga K c) (some dx)))
section
variable {P : Program} {w : World} {K : Frag} {mg : Str → Option Value} {base : Heap} {CX : CXT} {c fld nm qual par msg : Str} {params : Arguments} {body : List Stmt} {scope : Scope} {fI : Addr} {fd : FuncData} {p0 p1 p2 p3 p4 p5 p6 p7 p8 p9 : Pos} {j : Nat}
theorem xi_ok {k : Nat} {pl : Env → Sem Bool} (D : XiF P K c fld nm qual params body scope fI fd) (hms : mg "super" = none)
    (hbody : body = [.Expr (.Call (.Attribute (.Call (.Name "super" p0) [] [] p1) "__init__" p2) [.Constant (.str msg) j p3] [] p4) p5, .Assign [.Attribute (.Name "self" p6) fld p7] (.Name par p8) p9])
    (hp : ∃ ar, (params.posonlyargs ++ params.args).head? = some ar ∧ ar.arg = "self") (hk : scope.kind = .function) (hco : scope.isCoroutine = false) (hgen : scope.isGenerator = false) (hcell : ∀ x ∈ scope.names, x.2 ≠ .cell)
    (hks : scope.names.lookup ("super" : Str) = some .globalImplicit) (hkc : scope.names.lookup ("__class__" : Str) = some .free) (hka : scope.names.lookup ("self" : Str) = some .local) (hkp : scope.names.lookup par = some .local) (hne : par ≠ "self") (hpd : (par == ("__debug__" : Str)) = false)
    (hsw : ∀ env, swapsWith (.Name par p8) (some (.Attribute (.Name "self" p6) fld p7)) p9.line env = pure false) (hsw2 : ∀ env, swapsWith (.Call (.Attribute (.Call (.Name "super" p0) [] [] p1) "__init__" p2) [.Constant (.str msg) j p3] [] p4) none p5.line env = pure false)
    (hev : ∀ env, eval (.Call (.Attribute (.Call (.Name "super" p0) [] [] p1) "__init__" p2) [.Constant (.str msg) j p3] [] p4) env = (do
      let ov ← attributeBase (.Call (.Name "super" p0) [] [] p1) "__init__" env (eval (.Call (.Name "super" p0) [] [] p1) env)
      standAt p2.atName
      let (f, first) ← holding [ov] (getMethod ov "__init__" (pl env))
      callWith p4 f first (backTo p4 (starEach [.Constant (.str msg) j p3] env)) [])) :
    FnOk P w K mg base CX k fI fd ["self", par] (spXi K c fld) := by
  refine ⟨fun vs H Q E h => by obtain ⟨a, v, rfl, _⟩ := h; rfl, fun A outer s H args us vs Q E hr e0 hb rv hsp => ?_⟩
  obtain ⟨a, v, rfl, ha, q⟩ := hsp
  obtain ⟨oc, od, osl, kV, doc, pm, an, cda, ct, cc, rfl, lk, hcd, ⟨cl, cld, csl, lc⟩, ccl, cdd, fvs, ccs, file, tf, lcd, hvs, hfile⟩ := D.fn
  cases rv with
  | @cons _ u0 _ ur ra rv' =>
    cases rv' with
    | @cons _ uv _ _ rr rn =>
      cases rn
      obtain rfl : u0 = Value.ref a := ra
      have KX : K.In s.heap := e0.mod.kin.keeps fun b o e => (e0.bs b o e).1
      have lim : s.heap.NoLimit := e0.mod.nolimit.keeps fun b o e => (e0.bs b o e).1
      obtain ⟨t1, ho⟩ := exo_at e0.hok ha
      obtain ⟨nmC, qC, NC, bsC, bmC, snC, subC, abC, colC, ddC, k0, k1, k2, k3, k5, hC, hbm⟩ := D.oex.cls
      obtain ⟨ar, har, har2⟩ := hp
      obtain ⟨mb, hmb, hbt⟩ := e0.mod.blt
      have haC : a ≠ He.ga K c := fun z => by
        have hb1 : base.get? (He.ga K c) = _ := e0.mod.kin _ _ hC
        have := (e0.bs _ _ hb1).2
        rw [← z, ha] at this
        cases this
      subst hbody
      have hlk1 : ([(("self" : Str), Value.ref a), (par, uv)] : List (Str × Value)).reverse.lookup ("self" : Str) = some (Value.ref a) := by
        have e : (("self" : Str) == par) = false := by rw [beq_eq_false_iff_ne]; exact fun z => hne z.symm
        simp [List.lookup, e]
      have hlk2 : ([(("self" : Str), Value.ref a), (par, uv)] : List (Str × Value)).reverse.lookup par = some uv := by simp [List.lookup]
      refine PySem.ks_codeAny_call_defAt (binds := [("self", .ref a), (par, uv)]) hr.depth (KX _ _ lk) rfl lim (PySem.W.codeRec_of KX hcd) rfl hb hcell (fun y hy => ?_) (fun h₁ hns keep => ?_) hco hgen hk
      · rcases List.mem_cons.mp hy with rfl | hy
        · exact hka
        · rw [List.mem_singleton.mp hy]; exact hkp
      have K1 : K.In h₁ := KX.keeps keep
      have g1 : h₁.Ns mainGlobals mg := e0.mod.glob.keeps fun b o e => keep b o (e0.bs b o e).1
      have b1 : h₁.Ns builtinsNs mb := hmb.keeps fun b o e => keep b o (e0.bs b o e).1
      have nL : s.heap.objs.size ≠ a := Nat.ne_of_gt (Heap.lt_size ho)
      refine PySem.ks_wpAt_execs_cons (PySem.ks_wpAt_Expr_any (hi := by unfold interactive; show (scope.kind == _ && _) = false; rw [hk]; rfl) (hs := hsw2 _) (PySem.ks_wpAt_MethodCall (he := hev _) (PySem.ks_wpAt_super_base hks hkc (by decide) rfl (K1 _ _ lk) rfl har rfl (K1 _ _ lcd) rfl hvs hfile D.top ?_)))
      rw [har2]
      refine PySem.W.ks_loadName_global hk hks (Calls.loadGlobal_builtin g1 hms b1 ((hbt "super" (by decide)).trans (by decide +kernel : bootBuiltins ("super" : Str) = some (.type "super"))) ⟨rfl, ?_⟩)
      refine wpAny_loadName_free hk hkc rfl ⟨_, K1 _ _ lc, rfl⟩ ?_
      refine wpAny_loadName_local hk hka hns hlk1 ?_
      obtain ⟨sh, sg, sd, stk, sos⟩ := s
      refine PySem.ks_wpAny_isType_cls (K1 _ _ hC) rfl ⟨rfl, ?_⟩
      refine PySem.ks_wpAny_call_super (K1 _ _ hC) rfl (keep _ _ ho) rfl (fun c z => nomatch z) (PySem.W.looks_mroIn K1 D.sub) fun h2 hso kp2 => ?_
      have K2 : K.In h2 := K1.keeps kp2
      have ho2 := kp2 _ _ (keep _ _ ho)
      have I2 : PySem.W.InstAt h2 a _ (He.ga K c) none := ⟨ho2, rfl, rfl, trivial⟩
      obtain ⟨cd, hcl, hal⟩ : ∃ cd, PySem.W.clsIn K (He.ga K c) = some cd ∧ PySem.W.alongIn K "__init__" ((cd.mro.dropWhile (· != .ref (He.ga K c))).drop 1) = some (some (.builtin "ValueError.__init__")) := by
        have hm := D.sup
        unfold PySem.W.ks_superIn at hm
        cases hc : PySem.W.clsIn K (He.ga K c) with
        | none => rw [hc] at hm; cases hm
        | some cd => rw [hc] at hm; exact ⟨cd, rfl, hm⟩
      refine PySem.W.kxs_getMethod PySem.W.kxs_ValueError hso (PySem.W.looks_opaque K2 D.st) (l₀ := cd.mro) (fun A Q E s k q => wpAny_bind ((PySem.W.looks_clsIn K2 hcl) A _ E s k (wpAny_pure q))) rfl K2 hal (I2.type.andThen (PySem.W.looks_subIn K2 D.ve)) haC (by decide) ?_
      have K3 : K.In (h2.push (PySem.W.kxs_mw "ValueError.__init__" a)) := K2.keeps fun b o e => Heap.get?_push_of_some _ e
      have hu : (h2.push (PySem.W.kxs_mw "ValueError.__init__" a)).get? h2.objs.size = some (PySem.W.kxs_mw "ValueError.__init__" a) := Heap.get?_push_at rfl rfl
      have ho3 := Heap.get?_push_of_some (PySem.W.kxs_mw "ValueError.__init__" a) ho2
      refine PySem.W.kxs_callWith (i := "ValueError.__init__") (x := a) rfl (Calls.evalArgs_plain ?_)
      show wpAny _ _ (spliced ((false, eval (.Constant (.str msg) j p3) _) :: backTo p4 (starEach [] _))) _ _ _
      refine Calls.spliced_cons (wpAny_Constant_str ?_)
      refine Calls.spliced_nil ⟨hu, ?_⟩
      refine wpAny_call (codeAny_of_tree ?_)
      show wpAny _ _ (callAny (.ref h2.objs.size) ⟨[.str msg _], []⟩) _ _ _
      simp only [callAny]
      refine wpAny_bind (wpAny_load hu ?_)
      simp only [PySem.W.kxs_mw, show (Value.type "method-wrapper" == Value.type "method" || Value.type "method-wrapper" == Value.type "builtin_function_or_method" || Value.type "method-wrapper" == Value.type "method-wrapper") = true by decide, if_true]
      refine PySem.W.KFB.if_so (by decide) ?_
      refine wpAny_bind (PySem.W.check_bound_init PySem.F.excBase_ValueError.toExcCallFacts (K3 _ _ hC) ho3 rfl ?_)
      refine wpAny_bind (wpAny_pure (wpAny_pure ?_))
      refine ⟨plainId_quiet PySem.F.excBase_ValueError.init.plain _, codeAny_builtin PySem.F.excBase_ValueError.initEntry ?_⟩
      refine PySem.W.exc_init_tree (cls := .ref (He.ga K c)) (t0 := t1) (dv := none) (c2 := .none) (c3 := .none) (b4 := .bool false) ho3 (by rw [sizeLine_eq]; show 1 ≤ 16777216; decide) fun h4 k4 ho4 _ => ?_
      have kall : ∀ b o, b ≠ a → h₁.get? b = some o → h4.get? b = some o := fun b o hb e => k4 b o hb (Heap.get?_push_of_some _ (kp2 b o e))
      have K4 : K.In h4 := fun b o e => kall b o (fun z => by
        have e1 := (e0.bs _ _ (e0.mod.kin _ _ e)).2
        rw [z, ha] at e1
        cases e1) (K1 _ _ e)
      have hns4 := hns.at (h' := h4) fun o e => kall _ o nL e
      have hcl2 : PySem.W.clsIn K (He.ga K c) = some { name := nmC, bases := bsC, mro := .ref (He.ga K c) :: bmC, ns := NC, qualname := qC, hasDict := true, slotNames := snC, subclasses := subC, abstract := abC, collection := colC, hasDel := false } := by unfold PySem.W.clsIn; rw [hC] <;> rfl
      show _root_.PySem.wpAt _ _ _ (execs [.Assign [.Attribute (.Name "self" p6) fld p7] (.Name par p8) p9] _) _ _ _
      refine PySem.ks_wpAt_execs_cons (wpAt_of_wpAny (plainObj_wpAny_Assign_Attribute (wpAny_Name (wpAny_loadName_local hk hkp hns4 hlk2 (wpAny_Name (wpAny_loadName_local hk hka hns4 hlk1 ?_) (by decide))) hpd) (hsw _)))
      refine PySem.W.set_plain K4 (od := none) ⟨ho4, rfl, rfl, trivial⟩ D.oex.sa ?_
      refine PySem.HandSPX.exc_osa K4 ho4 hcl2 (show PySem.HandSPX.refsVE (.ref (He.ga K c) :: bmC) = true from hbm) rfl D.no (fun h' tk' dx kk dn dne hx hn => ?_)
      have kfin : ∀ b o, b ≠ a → sh.get? b = some o → h'.get? b = some o := fun b o hb e => kk b o hb (kall b o hb (keep b o e))
      have dn0 : sh.objs.size ≤ dx := by
        obtain ⟨o, _, _, e, _⟩ := hns4
        exact Nat.le_trans (Nat.le_of_lt (Heap.lt_size e)) dn
      have hnd : H dx = none := e0.hok.fresh dn0
      have nd : ∀ {b : Addr} {o : Obj}, sh.get? b = some o → b ≠ dx := fun {b o} q => Nat.ne_of_lt (Nat.lt_of_lt_of_le (Heap.lt_size q) dn0)
      have na : ∀ {b : Addr}, H b = none → b ≠ a := fun {b} n z => by
        rw [z, ha] at n
        cases n
      show _root_.PySem.wpAt _ _ _ (execs [] _) _ _ _
      refine wpAt_of_wpAny (wpAny_execs_nil ?_)
      refine ⟨.non, upd (upd H dx (exd dx [(fld, v)])) a (exo a (He.ga K c) (some dx)), rfl, e0.bare, ⟨fun b o q n _ _ => kfin b o (na n) q, fun b o q n _ _ => ⟨o.slots, kfin b o (na n) q⟩, fun b o q n _ => by rw [upd_ne (na n), upd_ne (nd q)]; exact n, fun b o q _ => ?_, fun b xs q => by rw [upd_ne (at_ne ha q exo_tup), upd_ne (ne_of_none q hnd)]; exact q, fun b o v q => by rw [upd_ne (at_ne ha q exo_frz), upd_ne (ne_of_none q hnd)]; exact q, fun b ps q => ⟨#[], by rw [upd_ne (at_ne ha q exo_tbl), upd_ne (ne_of_none q hnd), q]; simp⟩⟩, fun b o q => ?_, rfl, q dx hnd dne⟩
      · by_cases hb : b = a
        · exact ⟨_, by rw [hb]; exact hx⟩
        · exact ⟨o, kfin b o hb q⟩
      · by_cases hb : b = a
        · subst hb
          rw [upd_same] at q
          cases q
          exact exo_ok hx
        · rw [upd_ne hb] at q
          by_cases hd : b = dx
          · subst hd
            rw [upd_same] at q
            cases q
            exact exd_ok hn (relO_put (fs := []) rr fun g => True.intro)
          · rw [upd_ne hd] at q
            exact (e0.hok b o q).stay (fun c v hc z => kfin c v (by
                rcases hc with hc | hc
                · rw [hc]
                  exact hb
                · exact at_ne ha hc exo_own) z)
              (fun c hc => by rw [upd_ne (at_ne ha hc exo_own), upd_ne (ne_of_none hc hnd)]; exact hc) (fun c xs hc => by rw [upd_ne (at_ne ha hc exo_tup), upd_ne (ne_of_none hc hnd)]; exact hc)
end
/-! ### raise C(e) -/
/-- a new exception's dict -/
structure NewX (H : Hp) (fs : List (Str × V)) (k : Addr → Hp → Prop) : Prop where
  go : ∀ d, H d = none → k d (upd H d (.xd fs))
def dRsI (K : Frag) (c fld : Str) (W : WX) (i : Nat) : TS := fun _ σ H => onSome (nth σ i) fun v => NewX H [(fld, v)] fun d H2 => W (.ref (He.ga K c)) (some d) σ H2
theorem xi_heap {H : Hp} {a dx C : Addr} {fld : Str} {v : V} (ha : H a = none) (hd : H dx = none) (hne : dx ≠ a) : upd (del (upd (upd (upd H a (exo a C none)) dx (exd dx [(fld, v)])) a (exo a C (some dx))) a) dx (.xd [(fld, v)]) = upd H dx (.xd [(fld, v)]) := by
  funext b
  by_cases h1 : b = dx
  · rw [h1, upd_same, upd_same]
  · rw [upd_ne h1, upd_ne h1]
    by_cases h2 : b = a
    · rw [h2, del_same, ha]
    · rw [del_ne h2, upd_ne h2, upd_ne h1, upd_ne h2]
theorem ps_rsI {X : Cx} {c fld nm qual par msg : Str} {params : Arguments} {body : List Stmt} {scope : Scope} {fI : Addr} {p0 p1 p2 p3 p4 p5 p6 p7 p8 p9 pp ppos ppos' : Pos} {j : Nat} {pl : Env → Sem Bool} {W : WX} {e : Expr} {ix : Nat} (tk : Takes X W)
    (D : ∃ fd, XiF X.prog X.K c fld nm qual params body scope fI fd) (hms : X.mg "super" = none) (gC : X.mg c = some (.ref (He.ga X.K c))) (hr : Room 1 X.A) (he : PE X e (dVar ix))
    (hbind : ∀ (kV doc pm : Value) (an : Option Addr) (cdv ct : Value) (cc : Addr) (us : List Value), us.length = 2 → bindArgs (PySem.W.ksFn nm qual params body scope .none kV doc pm an cdv ct cc) ⟨us, []⟩ = pure ([("self" : Str), par].zip us))
    (hbody : body = [.Expr (.Call (.Attribute (.Call (.Name "super" p0) [] [] p1) "__init__" p2) [.Constant (.str msg) j p3] [] p4) p5, .Assign [.Attribute (.Name "self" p6) fld p7] (.Name par p8) p9])
    (hp : ∃ ar, (params.posonlyargs ++ params.args).head? = some ar ∧ ar.arg = "self") (hk : scope.kind = .function) (hco : scope.isCoroutine = false) (hgen : scope.isGenerator = false) (hcell : ∀ x ∈ scope.names, x.2 ≠ .cell)
    (hks : scope.names.lookup ("super" : Str) = some .globalImplicit) (hkc : scope.names.lookup ("__class__" : Str) = some .free) (hka : scope.names.lookup ("self" : Str) = some .local) (hkp : scope.names.lookup par = some .local) (hne : par ≠ "self") (hpd : (par == ("__debug__" : Str)) = false)
    (hsw : ∀ env, swapsWith (.Name par p8) (some (.Attribute (.Name "self" p6) fld p7)) p9.line env = pure false) (hsw2 : ∀ env, swapsWith (.Call (.Attribute (.Call (.Name "super" p0) [] [] p1) "__init__" p2) [.Constant (.str msg) j p3] [] p4) none p5.line env = pure false)
    (hev : ∀ env, eval (.Call (.Attribute (.Call (.Name "super" p0) [] [] p1) "__init__" p2) [.Constant (.str msg) j p3] [] p4) env = (do
      let ov ← attributeBase (.Call (.Name "super" p0) [] [] p1) "__init__" env (eval (.Call (.Name "super" p0) [] [] p1) env)
      standAt p2.atName
      let (f, first) ← holding [ov] (getMethod ov "__init__" (pl env))
      callWith p4 f first (backTo p4 (starEach [.Constant (.str msg) j p3] env)) []))
    (hc : X.calm = true := by rfl) (hg : Gl X c := by rfl) (hdb : (c == ("__debug__" : Str)) = false := by decide) (hst : starEach [e] X.env = (false, eval e X.env) :: starEach [] X.env := by rfl) (hpl : (backTo ppos (starEach [] X.env)).any (·.1) = false := by rfl) :
    PS X (.Raise (some (.Call (.Name c pp) [e] [] ppos)) none ppos') (dRsI X.K c fld W ix) := by
  obtain ⟨fd, D⟩ := D
  have F1 : FnOk X.prog X.w X.K X.mg X.base (L2.CX X.prog X.w) 0 fI fd ["self", par] (spXi X.K c fld) := xi_ok D hms hbody hp hk hco hgen hcell hks hkc hka hkp hne hpd hsw hsw2 hev
  have hb : Binds X.K fd ["self", par] [] := by
    obtain ⟨oc, od, osl, kV, doc, pm, an, cda, ct, cc, rfl, _⟩ := D.fn
    exact Binds.all fun us hl => hbind _ _ _ _ _ _ _ us hl
  have pm := pmk_oex (X := X) (p := pp) (pos := ppos) D.oex D.ini D.tI F1 hr hb .nil (fun _ _ _ _ _ _ _ h => by
    obtain ⟨_, _, _, _, _, _, _, _, _, _, _, _, z⟩ := h
    exact z.elim) hg gC (pa_cons he pa_nil hst) hdb hst hpl
  refine PS.of (ps_raise hc tk pm) fun DD σ H q => ?_
  unfold dRsI at q
  show onSome (nth σ ix) _
  cases hx : nth σ ix with
  | none => rw [hx] at q; exact q.elim
  | some v =>
    rw [hx] at q
    have q : NewX H [(fld, v)] fun d H2 => W (.ref (He.ga X.K c)) (some d) σ H2 := q
    refine ⟨show 1 ≤ 1000 by decide, fun a ha => ⟨a, v, rfl, upd_same, fun dx hdx hne => ⟨rfl, dx, [(fld, v)], upd_same, by rw [upd_ne hne, upd_same], ?_, ?_⟩⟩⟩
    · rw [upd_ne hne] at hdx; exact hdx
    · rw [upd_ne hne] at hdx
      rw [xi_heap ha hdx hne]
      exact q.go dx hdx
/-! ### e.f, e the exception of the suite -/
structure XfF (K : Frag) (c fld : Str) : Prop where
  xf : XfC K (He.ga K c)
  no : PySem.W.findIn K (.ref (He.ga K c)) fld = some none
def xffB (c fld : Str) (K : Frag) : Bool := xfB K (He.ga K c) && decide (PySem.W.findIn K (.ref (He.ga K c)) fld = some none)
theorem xffB_ok {K : Frag} {c fld : Str} (h : xffB c fld K = true) : XfF K c fld := let ⟨a, b⟩ := He.ba h; ⟨xfB_ok a, of_decide_eq_true b⟩
structure XAt (K : Frag) (H : Hp) (a : Addr) (cls : Value) (d : Option Addr) (c fld : Str) (x : V) (k : V → Prop) : Prop where
  ex : ∃ (dd : Addr) (fs : List (Str × V)) (v : V), x = .ref a ∧ cls = .ref (He.ga K c) ∧ d = some dd ∧ H dd = some (.xd fs) ∧ fs.lookup fld = some v ∧ k v
def dXf (K : Frag) (a : Addr) (cls : Value) (d : Option Addr) (c fld : Str) (te : TE) : TE := fun σ H Q => te σ H fun x H1 => XAt K H1 a cls d c fld x fun v => Q v H1
theorem pe_xfX {X : Cx} {a : Addr} {oe : Obj} {cls : Value} {d : Option Addr} {pn : List (Addr × Obj)} {e : Expr} {te : TE} {pos : Pos} {c fld : Str} (T : XfF X.K c fld) (hz : Zc cls d oe) (hf : ∃ vs, oe.data = .fields vs) (he : PE (X.suite a ((a, oe) :: pn)) e te)
    (hb : attributeBase e fld X.env (eval e X.env) = eval e X.env := by rfl) : PE (X.suite a ((a, oe) :: pn)) (.Attribute e fld pos) (dXf X.K a cls d c fld te) := by
  refine PE.of (pe_xf T.xf T.no hz hf he hb) fun σ H Q q => ?_
  have e : (fun (x : V) (H1 : Hp) => XAt X.K H1 a cls d c fld x fun v => Q v H1) = fun x H1 => x = .ref a ∧ cls = .ref (He.ga X.K c) ∧ ∃ (dd : Addr) (fs : List (Str × V)) (v : V), d = some dd ∧ H1 dd = some (.xd fs) ∧ fs.lookup fld = some v ∧ Q v H1 := by
    funext x H1
    refine propext ⟨fun ⟨dd, fs, v, h1, h2, h3, h4, h5, h6⟩ => ⟨h1, h2, dd, fs, v, h3, h4, h5, h6⟩, fun ⟨h1, h2, dd, fs, v, h3, h4, h5, h6⟩ => ⟨dd, fs, v, h1, h2, h3, h4, h5, h6⟩⟩
  show te σ H _
  rw [← e]
  exact q
/-! ### such a class in the head -/
def cellTo (K : Frag) (cc C : Addr) : Bool := match K.lookup cc with
  | some ⟨_, _, .cell (some (.ref D)), _⟩ => decide (D = C)
  | _ => false
theorem cellTo_ok {K : Frag} {cc C : Addr} (h : cellTo K cc C = true) : ∃ cl cld csl, K.lookup cc = some ⟨cl, cld, .cell (some (.ref C)), csl⟩ := by
  unfold cellTo at h
  split at h
  · rename_i cl cld D csl lc
    have e := of_decide_eq_true h
    subst e
    exact ⟨_, _, _, lc⟩
  · cases h
def codeFile (P : Program) (K : Frag) (cda : Addr) : Bool := match K.lookup cda with
  | some ⟨_, _, .fields vs, _⟩ => (match (vs[2]? : Option Value) with
    | some (.str file _) => ((P.main.file : Str) == file)
    | _ => false)
  | _ => false
theorem codeFile_ok {P : Program} {K : Frag} {cda : Addr} (h : codeFile P K cda = true) : ∃ ccl cdd vs ccs file tf, K.lookup cda = some ⟨ccl, cdd, .fields vs, ccs⟩ ∧ vs[2]? = some (.str file tf) ∧ ((P.main.file : Str) == file) = true := by
  unfold codeFile at h
  split at h
  · rename_i ccl cdd vs ccs lcd
    split at h
    · rename_i file tf hvs
      exact ⟨ccl, cdd, vs, ccs, file, tf, lcd, hvs, h⟩
    · cases h
  · cases h
def cloB (P : Program) (K : Frag) (C : Addr) (code : Value) (clo : List (Str × Addr)) : Bool := match code, clo with
  | .ref cda, [(_, cc)] => cellTo K cc C && codeFile P K cda
  | _, _ => false
theorem cloB_ok {P : Program} {K : Frag} {C : Addr} {code : Value} {clo : List (Str × Addr)} (h : cloB P K C code clo = true) : ∃ cda nm cc, code = .ref cda ∧ clo = [(nm, cc)] ∧ cellTo K cc C = true ∧ codeFile P K cda = true := by
  unfold cloB at h
  split at h
  · obtain ⟨h1, h2⟩ := He.ba h
    exact ⟨_, _, _, rfl, rfl, h1, h2⟩
  · cases h
def fnB (P : Program) (K : Frag) (C fI : Addr) : Bool := match K.lookup fI with
  | some ⟨_, _, .func fd, _⟩ => PySem.W.codeIn K fd.code fd.qualname && (He.dflB K fd.defaults [] && cloB P K C fd.code fd.closure)
  | _ => false
def xiB (P : Program) (c fld : Str) (K : Frag) : Bool := fnB P K (He.ga K c) (He.fAd K (c, some "__init__")) && (decide (PySem.W.mroIn K (He.ga K c) (.ref (He.ga K c)) = some true) && (He.eqO (PySem.W.ks_superIn K (He.ga K c) (He.ga K c) "__init__") (some (some (.builtin "ValueError.__init__"))) &&
    (decide (PySem.W.subIn K (.ref (He.ga K c)) (.type "ValueError") = some true) && (decide (PySem.W.nsIn K cStatics "thirdparty.any" = some none) && (oexB c K && (decide (PySem.W.findIn K (.ref (He.ga K c)) fld = some none) &&
    (He.eqO (PySem.W.findIn K (.ref (He.ga K c)) "__init__") (some (some (.ref (He.fAd K (c, some "__init__"))))) && (decide (PySem.W.typeIn K (.ref (He.fAd K (c, some "__init__"))) = some (.type "function")) && !(P.main.scope.names.lookup ("super" : Str)).isSome))))))))
theorem xi_of {P : Program} {K : Frag} {c fld nm qual : Str} {params : Arguments} {body : List Stmt} {scope : Scope} (e : fnX K (He.fAd K (c, some "__init__")) = some (nm, qual, params, .stmts body, scope, mainGlobals, [(("__class__" : Str), (0 : Addr))], builtinsNs)) (h : xiB P c fld K = true) :
    ∃ fd, XiF P K c fld nm qual params body scope (He.fAd K (c, some "__init__")) fd := by
  obtain ⟨h1, h⟩ := He.ba h
  obtain ⟨h2, h⟩ := He.ba h
  obtain ⟨h3, h⟩ := He.ba h
  obtain ⟨h4, h⟩ := He.ba h
  obtain ⟨h5, h⟩ := He.ba h
  obtain ⟨h6, h⟩ := He.ba h
  obtain ⟨h7, h⟩ := He.ba h
  obtain ⟨h8, h⟩ := He.ba h
  obtain ⟨h9, h10⟩ := He.ba h
  unfold fnX at e
  unfold fnB at h1
  cases lk : K.lookup (He.fAd K (c, some "__init__")) with
  | none => rw [lk] at e; cases e
  | some o =>
    rw [lk] at e h1
    obtain ⟨oc, od, dat, osl⟩ := o
    cases dat <;> try cases e
    rename_i fd
    obtain ⟨k1, k0⟩ := He.ba h1
    obtain ⟨kd, k2⟩ := He.ba k0
    obtain ⟨n1, n2, n3, n4, n5, n6, n7, n8, n9, n10, n11, n12, n13, n14, n15⟩ := fd
    simp only [Option.some.injEq, Prod.mk.injEq] at e
    obtain ⟨e1, e2, e3, e4, e5, e6, e7, e8⟩ := e
    subst e1 e2 e3 e4 e5 e6 e8
    dsimp only at k1 k2 kd
    have hdn : n8 = Value.none := by
      rcases He.dflB_ok kd with ⟨_, z⟩ | ⟨z, _⟩
      · exact z
      · exact absurd rfl z
    subst hdn
    obtain ⟨cda, nmc, cc, ec, eclo, h3', h4'⟩ := cloB_ok k2
    subst ec eclo
    have enm : nmc = "__class__" := by simpa using e7
    subst enm
    exact ⟨_, ⟨⟨oc, od, osl, _, _, _, _, cda, _, cc, rfl, lk, k1, cellTo_ok h3', codeFile_ok h4'⟩, of_decide_eq_true h2, He.eqO_ok h3, of_decide_eq_true h4, of_decide_eq_true h5, oexB_ok h6, of_decide_eq_true h7, He.eqO_ok h8, of_decide_eq_true h9, by simpa using h10⟩⟩
end S
namespace S
open PySem PySem.Spec PyProof.Rows L2
/-! ### x not in o, o with its own __contains__ -/
section
variable {X : Cx} {k : Nat} {g : Addr} {sp : Sp} {E : XK} {c : Str}
def oNinO (K : Frag) (c : Str) (sp : Sp) (E : XK) : R2 := fun x y H Q => match y with
  | .ref a => IsO K H c a (sp [.ref a, x] H (isB fun b H' => Q (.bl (!b)) H') E)
  | _ => False
theorem op_ninO (hm : Meth X.K (He.ga X.K c) "__contains__" g) (F : FnR X.prog X.w X.K X.mg X.base (L2.CX X.prog X.w) k g sp) (hr : Room k X.A) (hx : ∀ σ, PassesAt (L2.CX X.prog X.w) X σ E) : OpR X (compareOp .NotIn) (oNinO X.K c sp E) := by
  intro pins s σ H x y v u Q I rx ry q
  cases y <;> try exact q.elim
  cases ry
  obtain ⟨⟨dx, vs, hsl⟩, q⟩ := q
  obtain ⟨sl, od, _, J, _⟩ := SlX.slt_inst I hsl
  obtain ⟨m, hF⟩ := I.fr
  refine PySem.W.notIn_K hF I.ok.mod.kin J hm.at_ hm.fn ?_
  refine wpAny_mono (run_R (us := [.ref _, v]) (vs := [.ref _, x]) (E := fun _ => E) F hr (hx σ) I (.cons rfl (.cons rx .nil)) q) (fun w s' z => ?_) fun _ _ x => x
  obtain ⟨z', H', I', rz, qz⟩ := z
  obtain ⟨b, e, qz⟩ := isB_ex qz
  subst e
  cases rz
  exact wpAny_truthy_bool ⟨.bl (!b), H', I', rfl, qz⟩
end
/-! ### n.bit_length() -/
def dBits (to : TE) : TE := fun σ H Q => to σ H fun x H1 => match x with
  | .int i => Q (.int (Builtin.Int.intBits i : Nat)) H1
  | _ => False
theorem pe_bitsX {X : Cx} {o : Expr} {to : TE} {apos pos : Pos} (ho : PE X o to) (hbase : attributeBase o "bit_length" X.env (eval o X.env) = eval o X.env := by rfl) (hline : (apos.endLine == pos.line) = true := by rfl) : PE X (.Call (.Attribute o "bit_length" apos) [] [] pos) (dBits to) := by
  refine PE.of (pe_bits ho hbase hline) fun σ H Q q => ?_
  have e : (fun (x : V) (H1 : Hp) => (match x with
      | .int i => Q (.int (Builtin.Int.intBits i : Nat)) H1
      | _ => False : Prop)) = fun x H1 => ∃ i, x = .int i ∧ Q (.int (Builtin.Int.intBits i : Nat)) H1 := by
    funext x H1
    refine propext ⟨fun h => ?_, fun ⟨i, h1, h2⟩ => by subst h1; exact h2⟩
    cases x <;> try exact h.elim
    exact ⟨_, rfl, h⟩
  show to σ H _
  rw [← e]
  exact q
/-- the least width of a number -/
def widI (i : Int) : Nat := Builtin.Int.intBits (if i < 0 then -i - 1 else i) + 1
theorem bits_lt {i : Int} (h : 0 ≤ i) : i < 2 ^ Builtin.Int.intBits i := by
  unfold Builtin.Int.intBits
  by_cases h0 : i = 0
  · subst h0; decide
  · rw [if_neg (by simpa using h0)]
    have h1 : i.natAbs < 2 ^ (i.natAbs.log2 + 1) := Nat.lt_log2_self
    have h2 : ((2 : Int) ^ (i.natAbs.log2 + 1)) = ((2 ^ (i.natAbs.log2 + 1) : Nat) : Int) := by simp
    rw [h2]; omega
theorem bits_le {i : Int} (h : 0 ≤ i) (h1 : 0 < Builtin.Int.intBits i) : (2 ^ (Builtin.Int.intBits i - 1) : Int) ≤ i := by
  unfold Builtin.Int.intBits at h1 ⊢
  by_cases h0 : i = 0
  · subst h0; exact absurd h1 (by decide)
  · rw [if_neg (by simpa using h0)]
    have h3 : 2 ^ i.natAbs.log2 ≤ i.natAbs := Nat.log2_self_le (by omega)
    have h2 : ((2 : Int) ^ (i.natAbs.log2 + 1 - 1)) = ((2 ^ i.natAbs.log2 : Nat) : Int) := by simp
    rw [h2]; omega
theorem widI_pos (i : Int) : 1 ≤ widI i := by unfold widI; omega
theorem widI_fit (i : Int) : -(2 ^ (widI i - 1) : Int) ≤ i ∧ i < 2 ^ (widI i - 1) := by
  unfold widI
  rw [Nat.add_sub_cancel]
  by_cases h : i < 0
  · rw [if_pos h]
    have := bits_lt (i := -i - 1) (by omega)
    omega
  · rw [if_neg h]
    have := bits_lt (i := i) (by omega)
    omega
theorem widI_least {i : Int} (h : 1 < widI i) : i < -(2 ^ (widI i - 2) : Int) ∨ (2 ^ (widI i - 2) : Int) ≤ i := by
  unfold widI at h ⊢
  by_cases h0 : i < 0
  · rw [if_pos h0] at h ⊢
    have := bits_le (i := -i - 1) (by omega) (by omega)
    have e : Builtin.Int.intBits (-i - 1) + 1 - 2 = Builtin.Int.intBits (-i - 1) - 1 := by omega
    rw [e]; omega
  · rw [if_neg h0] at h ⊢
    have := bits_le (i := i) (by omega) (by omega)
    have e : Builtin.Int.intBits i + 1 - 2 = Builtin.Int.intBits i - 1 := by omega
    rw [e]; omega
end S
namespace S
open PySem PySem.Spec PyProof.Rows L2
/-! ### range(a, b, -1) -/
def iR3 (vs : List V) (H : Hp) (R : It → Hp → Prop) : Prop := match vs with
  | [.int i, .int j, .int c] => Need (c = -1) (Need (-(2 ^ 62) ≤ i ∧ i < 2 ^ 62 ∧ -(2 ^ 62) ≤ j ∧ j < 2 ^ 62) (R (Itc i (-1) (i - j).toNat) H))
  | _ => False
def iRngD (ta : TA) : TI := fun σ H R => ta σ H fun vs H1 => iR3 vs H1 R
theorem pi_rngD {X : Cx} {tg a b c : Expr} {ta : TA} {p pos : Pos} (hg : Gl X "range") (hm : X.mg "range" = none) (ha : PA X [a, b, c] ta)
    (hs : starEach [a, b, c] X.env = (false, eval a X.env) :: starEach [b, c] X.env := by rfl) (hpl : (backTo pos (starEach [b, c] X.env)).any (·.1) = false := by rfl) :
    PI X tg (.Call (.Name "range" p) [a, b, c] [] pos) (iRngD ta) := by
  refine ⟨fun pins s σ H R I h => ?_⟩
  refine Call_ (ld_blt I hg hm boot_range (PyProof.Rows.callWith_type1 (thn (ha.run pos pins s σ H _ I h) fun us s1 ⟨vs, H1, I1, r1, q1⟩ => ?_) hs hpl))
  match vs, q1 with
  | [.int i, .int j, .int k], ⟨e, ⟨q1, q2, q3, q4⟩, q⟩ =>
    subst e
    obtain ⟨c0, c1, c2, c3⟩ := RgC.neg q1 q2 q3 q4
    cases r1 with
    | cons r rr =>
      cases rr with
      | cons r' rr =>
        cases rr with
        | cons r'' rr =>
          cases rr
          obtain ⟨t, rfl⟩ := r
          obtain ⟨t', rfl⟩ := r'
          obtain ⟨t'', rfl⟩ := r''
          refine call_range_3 c0 ?_ (.inl (PyProof.noPylong_small c1))
          refine wpAny_pyIter_range (IsRange.new ..) c2 ?_
          have I2 : Inv X pins σ H1 { s1 with heap := s1.heap.push { cls := .type "range", data := .fields #[.int i t, .int j t', .int (-1) t''] } } := I1.kept (t' := s1.toks) fun b o e => Heap.get?_push_of_some _ e
          refine pi_one (tk := s1.toks) I2 _ (turn_rangeC _ i (-1) (i - j).toNat) ?_ q
          have e1 : i + ((0 : Nat) : Int) * (-1) = i := by simp
          have e2 : (((i - j).toNat : Nat) : Int) - ((0 : Nat) : Int) = Builtin.Range.rangeSize i j (-1) := by rw [c3]; simp
          show IsRangeIter _ _ (i + ((0 : Nat) : Int) * (-1)) ((((i - j).toNat : Nat) : Int) - ((0 : Nat) : Int)) (-1)
          rw [e1, e2]
          exact Heap.get?_push_size _ rfl
theorem for_rngD {a b : Int} {g : TG} {tb : TS} {D : Ends} {σ : L2.St} {H : Hp} (Pv : Nat → L2.St → Hp → Prop) (h0 : Pv 0 σ H)
    (hs : ∀ (i : Nat) σ H, b < a - (i : Int) → Pv i σ H → g (.int (a - i)) σ H fun σ2 H2 => tb { D with nx := Pv (i + 1), ct := Pv (i + 1), bk := D.nx } σ2 H2) (hd : ∀ σ H, Pv (a - b).toNat σ H → D.nx σ H) :
    LoopR D g tb σ (Itc a (-1) (a - b).toNat) H := by
  refine L2.for_rangeC (lo := a) Pv h0 (fun i σ H hi q => ?_) hd
  have z := hs i σ H (by omega) q
  have e : a + (i : Int) * (-1) = a - i := by omega
  rw [e]; exact z
/-! ### the head, its looks one by one -/
theorem run_split {σ β γ : Type} {o : Option σ} {f1 f2 f3 f4 : σ → Bool} {g : σ → β} {h : σ → γ} {v2 : β} {v3 : γ} (h1 : o.map f1 = some true) (h2 : o.map f2 = some true) (h3 : o.map f3 = some true) (h4 : o.map f4 = some true) (h5 : o.map g = some v2) (h6 : o.map h = some v3) :
    o.map (fun s => (f1 s && f2 s && f3 s && f4 s, g s, h s)) = some (true, v2, v3) := by
  cases o with
  | none => cases h1
  | some s =>
    have e1 : f1 s = true := Option.some.inj h1
    have e2 : f2 s = true := Option.some.inj h2
    have e3 : f3 s = true := Option.some.inj h3
    have e4 : f4 s = true := Option.some.inj h4
    have e5 : g s = v2 := Option.some.inj h5
    have e6 : h s = v3 := Option.some.inj h6
    show some (f1 s && f2 s && f3 s && f4 s, g s, h s) = _
    rw [e1, e2, e3, e4, e5, e6]; rfl
end S
namespace S
open PySem PySem.Spec PyProof.Rows L2
/-! ### i op x, x an instance with its own reflected op -/
theorem int_decl {nm : String} {f : Int → Int → Sem PySem.Fin} {i : Int} {t : Tok} {x : Addr} : GivesAt (fun s => ∃ ox : Obj, s.heap.get? x = some ox ∧ ∀ v, ox.data ≠ .prim v) (Builtin.Int.intBinary nm f false ⟨[.int i t, .ref x], []⟩) (.val Value.notImplemented) := by
  rintro prog w A R s ⟨ox, hx, hd⟩ h
  unfold Builtin.Int.intBinary
  have s1 : slotArgs nm 1 ⟨[.int i t, .ref x], []⟩ = pure (.int i t, [.ref x]) := by
    unfold slotArgs
    rfl
  rw [s1]
  refine wpAny_bind (wpAny_pure ?_)
  dsimp only
  have s2 : Builtin.Int.intOfSelf (.int i t) = pure i := by
    unfold Builtin.Int.intOfSelf asInt?
    rfl
  rw [s2]
  refine wpAny_bind (wpAny_pure ?_)
  dsimp only [List.headD_cons]
  unfold asInt?
  refine wpAny_bind (wpAny_bind (wpAny_load hx ?_))
  split
  · rename_i hq
    exact absurd hq (hd _)
  · refine wpAny_pure ?_
    exact wpAny_bind (wpAny_rule (wpAny_pure h))
section
variable {prog : Program} {w : World} {A : Around} {E : Value → Shared → Prop} {s : Shared} {K : Frag} {x C L f g : Addr} {h₀ : Heap} {m : Str → Option Value} {ox : Obj} {od : Option Obj}
theorem binR {op : Operator} {i : Int} {t : Tok} {idl : String} {B : Builtin} {Q : Value → Shared → Prop} (X : K.In s.heap) (I : PySem.W.InstAt s.heap x ox C od) (hd : ∀ v, ox.data ≠ .prim v) (hc : PySem.W.selfFirst K C = true)
    (hs : PySem.W.findIn K (.ref C) (PySem.dunder op.info.2) = some (some (.ref g))) (hr : PySem.W.findIn K (.ref C) (PySem.dunderR op.info.2) = some (some (.ref f))) (hf : PySem.W.isFn K (.ref f) = true)
    (hfi : fillsNumberSlot (.type "int") op.info.2 = pure true) (slot : Slot "int" (PySem.dunder op.info.2) idl) (entry : entryFor table idl = some B) (args : argsOk idl ⟨[.int i t, .ref x], []⟩)
    (gv : GivesAt (fun s => ∃ ox : Obj, s.heap.get? x = some ox ∧ ∀ v, ox.data ≠ .prim v) (B ⟨[.int i t, .ref x], []⟩) (.val Value.notImplemented)) (hsub : PySem.W.subIn K (.ref C) (.type "int") = some false)
    (h : wpAny (model prog w) A (call (.ref f) [.ref x, .int i t]) (PySem.W.CmpBack Q) E s) : wpAny (model prog w) A (binaryOp op (.int i t) (.ref x)) Q E s := by
  obtain ⟨cd, rest, hcd, hm⟩ := PySem.W.ksp_first hc
  rcases hi : op.info with ⟨sym, nm'⟩
  rw [hi] at hs hr hfi slot
  dsimp only at hs hr hfi slot
  have one := PySem.W.ksp_try X I hr hf h
  have L2 : PySem.W.Looks (model prog w) s.heap (typeOf (.ref x)) (.ref C) := I.type
  have L4 : PySem.W.Looks (model prog w) s.heap (fillsNumberSlot (.ref C) nm') true := PySem.W.fills_K X hcd hm hs
  have L5 : PySem.W.Looks (model prog w) s.heap (isSubtype (.ref C) (.type "int")) false := PySem.W.looks_subIn X hsub
  have hne : (Value.type "int" == Value.ref C) = false := Bool.eq_false_iff.mpr fun q => by cases beq_iff_eq.mp q
  have hpy : numberSlotInPython (.type "int") nm' = pure false := rfl
  simp only [binaryOp, hi]
  refine wpAny_holding (wpAny_bind ?_)
  unfold binaryOp1
  refine wpAny_bind (wpAny_of_eq (show typeOf (.int i t) = pure (.type "int") from rfl) (wpAny_bind (L2.here (wpAny_bind (wpAny_of_eq hfi ?_)))))
  simp only [hne, Bool.false_eq_true, if_false]
  refine wpAny_bind (L4.here ?_)
  simp only [Bool.and_self, if_true]
  refine wpAny_bind (L5.here ?_)
  simp only [Bool.false_eq_true, if_false, pure_bind, Bool.not_false, Bool.and_self, if_true, hpy]
  refine wpAny_bind (wpAny_tryMethod_declines (T := "int") rfl slot (call_givesAt slot rfl entry args gv ⟨ox, I.at_, hd⟩ ⟨rfl, ?_⟩))
  refine wpAny_bind (wpAny_mono one (fun r s' hr' => ?_) fun _ _ e => e)
  obtain ⟨v, rfl, hq⟩ := hr'
  exact wpAny_bind (wpAny_rule (wpAny_pure (wpAny_pure hq)))
end
theorem sub_int {K : Frag} {a : Addr} : PySem.W.subIn K (.type "int") (.ref a) = some false := by
  show (PySem.fastBuiltinMro "int").map (·.contains (.ref a)) = _
  obtain ⟨l, hl⟩ := Option.isSome_iff_exists.mp (show (PySem.fastBuiltinMro "int").isSome = true by decide)
  rw [hl]
  unfold PySem.fastBuiltinMro at hl
  obtain ⟨r, _, rfl⟩ := Option.map_eq_some_iff.mp hl
  rw [Option.map_some]
  congr 1
  rw [Bool.eq_false_iff]
  intro z
  rw [List.contains_iff_mem, List.mem_map] at z
  obtain ⟨_, _, e⟩ := z
  cases e
/-- what int has for an operator; that it declines an instance -/
structure IntOp (op : Operator) : Prop where
  ex : ∃ (fo ro : Option Value) (idl : String) (B : Builtin), (∀ K : Frag, PySem.W.findIn K (.type "int") (PySem.dunder op.info.2) = some fo) ∧ (∀ K : Frag, PySem.W.findIn K (.type "int") (PySem.dunderR op.info.2) = some ro) ∧
    fillsNumberSlot (.type "int") op.info.2 = pure true ∧ Slot "int" (PySem.dunder op.info.2) idl ∧ entryFor table idl = some B ∧ (∀ a b : Value, argsOk idl ⟨[a, b], []⟩) ∧
    ∀ (i : Int) (t : Tok) (x : Addr), GivesAt (fun s => ∃ ox : Obj, s.heap.get? x = some ox ∧ ∀ v, ox.data ≠ .prim v) (B ⟨[.int i t, .ref x], []⟩) (.val Value.notImplemented)
theorem int_add : IntOp .Add := ⟨some (.builtin "int.__add__"), some (.builtin "int.__radd__"), _, _, fun _ => by show PySem.fastLookup "int" "__add__" = _; kernel_rfl, fun _ => by show PySem.fastLookup "int" "__radd__" = _; kernel_rfl, PySem.F.fills_int_add, PySem.F.slot_int_add, PySem.F.entry_int_add, fun a b => PySem.F.args_int_add_2 a b, fun i t x => int_decl⟩
theorem int_sub : IntOp .Sub := ⟨some (.builtin "int.__sub__"), some (.builtin "int.__rsub__"), _, _, fun _ => by show PySem.fastLookup "int" "__sub__" = _; kernel_rfl, fun _ => by show PySem.fastLookup "int" "__rsub__" = _; kernel_rfl, PySem.F.fills_int_sub, PySem.F.slot_int_sub, PySem.F.entry_int_sub, fun a b => PySem.F.args_int_sub_2 a b, fun i t x => int_decl⟩
theorem int_mul : IntOp .Mult := ⟨some (.builtin "int.__mul__"), some (.builtin "int.__rmul__"), _, _, fun _ => by show PySem.fastLookup "int" "__mul__" = _; kernel_rfl, fun _ => by show PySem.fastLookup "int" "__rmul__" = _; kernel_rfl, PySem.F.fills_int_mul, PySem.F.slot_int_mul, PySem.F.entry_int_mul, fun a b => PySem.F.args_int_mul_2 a b, fun i t x => int_decl⟩
section
variable {X : Cx} {k kR : Nat} {g gR : Addr} {sp spR : Sp} {E : XK} {c : Str} {ups : List Str} {tys : List String}
/-- x op y: an instance of c ahead (an instance or an int behind), or an int ahead of an instance (its reflected op); r: of other values -/
def oOwnI (K : Frag) (c : Str) (sp spR : Sp) (E : XK) (r : R2) : R2 := fun x y H Q => match x, y with
  | .ref a, .ref b => IsO K H c a (IsO K H c b (sp [.ref a, .ref b] H Q E))
  | .ref a, .int i => IsO K H c a (sp [.ref a, .int i] H Q E)
  | .int i, .ref b => IsO K H c b (spR [.ref b, .int i] H Q E)
  | x, y => r x y H Q
theorem op_ownI {op : Operator} {r : R2} (iop : IntOp op) (mf : MF X.K c ups tys) (hty : "int" ∉ tys) (hm : Meth X.K (He.ga X.K c) (PySem.dunder op.info.2) g) (hmR : Meth X.K (He.ga X.K c) (PySem.dunderR op.info.2) gR)
    (F : FnR X.prog X.w X.K X.mg X.base (L2.CX X.prog X.w) k g sp) (FR' : FnR X.prog X.w X.K X.mg X.base (L2.CX X.prog X.w) kR gR spR) (hr : Room k X.A) (hrR : Room kR X.A) (hx : ∀ σ, PassesAt (L2.CX X.prog X.w) X σ E) (h0 : OpR X (binaryOp op) r) : OpR X (binaryOp op) (oOwnI X.K c sp spR E r) := by
  obtain ⟨fo, ro, idl, B, f1, f2, fi, slot, entry, args, gv⟩ := iop.ex
  have hsub : PySem.W.subIn X.K (.ref (He.ga X.K c)) (.type "int") = some false := by
    rw [mf_sub mf]
    congr 1
    rw [decide_eq_false_iff_not]
    intro z
    rcases List.mem_append.mp z with z | z
    · obtain ⟨_, _, e⟩ := List.mem_map.mp z
      cases e
    · obtain ⟨y, hy, e⟩ := List.mem_map.mp z
      cases e
      exact hty hy
  intro pins s σ H x y v u Q I rx ry q
  have own : ∀ a b, x = .ref a → y = .ref b → IsO X.K H c a (IsO X.K H c b (sp [.ref a, .ref b] H Q E)) → wpAny (model X.prog X.w) X.A (binaryOp op v u) (EP X pins σ Q) X.xe s := by
    intro a b ex ey q
    subst ex ey
    cases rx
    cases ry
    obtain ⟨⟨dx, vs, hsl⟩, ⟨⟨dy, ws, hsl2⟩, q⟩⟩ := q
    obtain ⟨sl, od, _, J, _⟩ := SlX.slt_inst I hsl
    obtain ⟨sl', od', _, J', _⟩ := SlX.slt_inst I hsl2
    obtain ⟨m, hF⟩ := I.fr
    refine PySem.W.binop_K hF I.ok.mod.kin J J'.type (mf_first mf) hm.at_ hm.fn ?_
    refine wpAny_mono (run_op (us := [.ref a, .ref b]) (vs := [.ref a, .ref b]) F hr I.env0 hx I (.cons rfl (.cons rfl .nil)) q) (fun w s' z => ?_) fun _ _ x => x
    obtain ⟨z', H', I', rz, qz⟩ := z
    exact SlX.cmpback rz ⟨z', H', I', rz, qz⟩
  have left : ∀ a i, x = .ref a → y = .int i → IsO X.K H c a (sp [.ref a, .int i] H Q E) → wpAny (model X.prog X.w) X.A (binaryOp op v u) (EP X pins σ Q) X.xe s := by
    intro a i ex ey q
    subst ex ey
    cases rx
    obtain ⟨t, rfl⟩ := ry
    obtain ⟨⟨dx, vs, hsl⟩, q⟩ := q
    obtain ⟨sl, od, _, J, _⟩ := SlX.slt_inst I hsl
    obtain ⟨m, hF⟩ := I.fr
    refine PySem.W.ksp_binT (T := "int") hF I.ok.mod.kin J rfl (mf_first mf) hm.at_ hm.fn hmR.at_ (.inr ⟨_, rfl⟩) (f1 _) (f2 _) sub_int ?_
    refine wpAny_mono (run_op (us := [.ref a, .int i t]) (vs := [.ref a, .int i]) F hr I.env0 hx I (.cons rfl (.cons ⟨t, rfl⟩ .nil)) q) (fun w s' z => ?_) fun _ _ x => x
    obtain ⟨z', H', I', rz, qz⟩ := z
    exact SlX.cmpback rz ⟨z', H', I', rz, qz⟩
  have right : ∀ i b, x = .int i → y = .ref b → IsO X.K H c b (spR [.ref b, .int i] H Q E) → wpAny (model X.prog X.w) X.A (binaryOp op v u) (EP X pins σ Q) X.xe s := by
    intro i b ex ey q
    subst ex ey
    obtain ⟨t, rfl⟩ := rx
    cases ry
    obtain ⟨⟨dx, vs, hsl⟩, q⟩ := q
    obtain ⟨sl, od, _, J, _⟩ := SlX.slt_inst I hsl
    obtain ⟨m, hF⟩ := I.fr
    refine binR (I.ok.mod.kin.keeps hF.keep) J (fun v z => by cases z) (mf_first mf) hm.at_ hmR.at_ hmR.fn fi slot entry (args _ _) (gv _ _ _) hsub ?_
    refine wpAny_mono (run_op (us := [.ref b, .int i t]) (vs := [.ref b, .int i]) FR' hrR I.env0 hx I (.cons rfl (.cons ⟨t, rfl⟩ .nil)) q) (fun w s' z => ?_) fun _ _ x => x
    obtain ⟨z', H', I', rz, qz⟩ := z
    exact SlX.cmpback rz ⟨z', H', I', rz, qz⟩
  cases x <;> cases y <;> first | exact own _ _ rfl rfl q | exact left _ _ rfl rfl q | exact right _ _ rfl rfl q | exact h0 pins s σ H _ _ v u Q I rx ry q
/-- the same with an instance ahead alone -/
def oOwnL (K : Frag) (c : Str) (sp : Sp) (E : XK) (r : R2) : R2 := fun x y H Q => match x, y with
  | .ref a, .ref b => IsO K H c a (IsO K H c b (sp [.ref a, .ref b] H Q E))
  | .ref a, .int i => IsO K H c a (sp [.ref a, .int i] H Q E)
  | x, y => r x y H Q
theorem op_ownL {op : Operator} {r : R2} (iop : IntOp op) (mf : MF X.K c ups tys) (hm : Meth X.K (He.ga X.K c) (PySem.dunder op.info.2) g) (hmR : Meth X.K (He.ga X.K c) (PySem.dunderR op.info.2) gR)
    (F : FnR X.prog X.w X.K X.mg X.base (L2.CX X.prog X.w) k g sp) (hr : Room k X.A) (hx : ∀ σ, PassesAt (L2.CX X.prog X.w) X σ E) (h0 : OpR X (binaryOp op) r) : OpR X (binaryOp op) (oOwnL X.K c sp E r) := by
  obtain ⟨fo, ro, idl, B, f1, f2, fi, slot, entry, args, gv⟩ := iop.ex
  intro pins s σ H x y v u Q I rx ry q
  have own : ∀ a b, x = .ref a → y = .ref b → IsO X.K H c a (IsO X.K H c b (sp [.ref a, .ref b] H Q E)) → wpAny (model X.prog X.w) X.A (binaryOp op v u) (EP X pins σ Q) X.xe s := by
    intro a b ex ey q
    subst ex ey
    cases rx
    cases ry
    obtain ⟨⟨dx, vs, hsl⟩, ⟨⟨dy, ws, hsl2⟩, q⟩⟩ := q
    obtain ⟨sl, od, _, J, _⟩ := SlX.slt_inst I hsl
    obtain ⟨sl', od', _, J', _⟩ := SlX.slt_inst I hsl2
    obtain ⟨m, hF⟩ := I.fr
    refine PySem.W.binop_K hF I.ok.mod.kin J J'.type (mf_first mf) hm.at_ hm.fn ?_
    refine wpAny_mono (run_op (us := [.ref a, .ref b]) (vs := [.ref a, .ref b]) F hr I.env0 hx I (.cons rfl (.cons rfl .nil)) q) (fun w s' z => ?_) fun _ _ x => x
    obtain ⟨z', H', I', rz, qz⟩ := z
    exact SlX.cmpback rz ⟨z', H', I', rz, qz⟩
  have left : ∀ a i, x = .ref a → y = .int i → IsO X.K H c a (sp [.ref a, .int i] H Q E) → wpAny (model X.prog X.w) X.A (binaryOp op v u) (EP X pins σ Q) X.xe s := by
    intro a i ex ey q
    subst ex ey
    cases rx
    obtain ⟨t, rfl⟩ := ry
    obtain ⟨⟨dx, vs, hsl⟩, q⟩ := q
    obtain ⟨sl, od, _, J, _⟩ := SlX.slt_inst I hsl
    obtain ⟨m, hF⟩ := I.fr
    refine PySem.W.ksp_binT (T := "int") hF I.ok.mod.kin J rfl (mf_first mf) hm.at_ hm.fn hmR.at_ (.inr ⟨_, rfl⟩) (f1 _) (f2 _) sub_int ?_
    refine wpAny_mono (run_op (us := [.ref a, .int i t]) (vs := [.ref a, .int i]) F hr I.env0 hx I (.cons rfl (.cons ⟨t, rfl⟩ .nil)) q) (fun w s' z => ?_) fun _ _ x => x
    obtain ⟨z', H', I', rz, qz⟩ := z
    exact SlX.cmpback rz ⟨z', H', I', rz, qz⟩
  cases x <;> cases y <;> first | exact own _ _ rfl rfl q | exact left _ _ rfl rfl q | exact h0 pins s σ H _ _ v u Q I rx ry q
end
end S
namespace S
open PySem PySem.Spec PyProof.Rows L2
/-! ### abs of an instance with its own __abs__ -/
section
variable {X : Cx} {k : Nat} {g : Addr} {sp : Sp} {E : XK} {c : Str} {ups : List Str} {tys : List String}
def cAbsO (K : Frag) (c : Str) (sp : Sp) (E : XK) : List V → Hp → VK → Prop := fun xs H Q => match xs with
  | [.int i] => Q (.int (i.natAbs : Int)) H
  | [.ref p] => IsO K H c p (sp [.ref p] H Q E)
  | _ => False
theorem c_absO (hm : Meth X.K (He.ga X.K c) "__abs__" g) (F : FnR X.prog X.w X.K X.mg X.base (L2.CX X.prog X.w) k g sp) (hr : Room (k + 1) X.A) (hx : ∀ σ, PassesAt (L2.CX X.prog X.w) X σ E) : CallR X (.builtin "abs") (cAbsO X.K c sp E) := by
  intro pins s σ H xs us Q I r h
  match xs, h with
  | [.int i], h => exact (c_abs (X := X)) pins s σ H _ us Q I r h
  | [.ref p], ⟨⟨dx, vs, hsl⟩, q⟩ =>
    obtain ⟨u, rfl, rfl⟩ := r.one
    obtain ⟨sl, od, _, J, _⟩ := SlX.slt_inst I hsl
    obtain ⟨m, hF⟩ := I.fr
    have hr2 : Room k X.A.in1 := Room.in1 hr
    refine Calls.call_function_entry kind_abs plain_abs entry_abs (args_abs _) ?_
    unfold Builtin.«abs»
    refine wpAny_bind (m := oneArg "abs" _) (wpAny_pure ?_)
    refine wpAny_bind (PySem.W.special_fn I.kIn J hm.at_ (beq_iff_eq.mp hm.fn) ?_)
    refine wpAny_mono (run_op (us := [.ref p]) (vs := [.ref p]) F hr2 I.env0.in1 hx I (.cons rfl .nil) q) (fun w s' z => ?_) fun _ _ x => x
    exact wpAny_pure ⟨_, rfl, z⟩
end
/-! ### x op i, x an instance whose class has no reflected op -/
structure IntOpN (op : Operator) : Prop where
  ex : ∃ (fo ro : Option Value), (∀ K : Frag, PySem.W.findIn K (.type "int") (PySem.dunder op.info.2) = some fo) ∧ (∀ K : Frag, PySem.W.findIn K (.type "int") (PySem.dunderR op.info.2) = some ro)
theorem intN_shl : IntOpN .LShift := ⟨some (.builtin "int.__lshift__"), some (.builtin "int.__rlshift__"), fun _ => by show PySem.fastLookup "int" "__lshift__" = _; kernel_rfl, fun _ => by show PySem.fastLookup "int" "__rlshift__" = _; kernel_rfl⟩
theorem intN_shr : IntOpN .RShift := ⟨some (.builtin "int.__rshift__"), some (.builtin "int.__rrshift__"), fun _ => by show PySem.fastLookup "int" "__rshift__" = _; kernel_rfl, fun _ => by show PySem.fastLookup "int" "__rrshift__" = _; kernel_rfl⟩
def NoM (K : Frag) (c m : Str) : Prop := PySem.W.findIn K (.ref (He.ga K c)) m = some none
def noMB (c m : Str) (K : Frag) : Bool := He.eqO (PySem.W.findIn K (.ref (He.ga K c)) m) (some none)
theorem noMB_ok {K : Frag} {c m : Str} (h : noMB c m K = true) : NoM K c m := He.eqO_ok h
section
variable {X : Cx} {k : Nat} {g : Addr} {sp : Sp} {E : XK} {c : Str} {ups : List Str} {tys : List String}
def oOwnN (K : Frag) (c : Str) (sp : Sp) (E : XK) (r : R2) : R2 := fun x y H Q => match x, y with
  | .ref a, .int i => IsO K H c a (sp [.ref a, .int i] H Q E)
  | x, y => r x y H Q
theorem op_ownN {op : Operator} {r : R2} (iop : IntOpN op) (mf : MF X.K c ups tys) (hm : Meth X.K (He.ga X.K c) (PySem.dunder op.info.2) g) (hn : NoM X.K c (PySem.dunderR op.info.2))
    (F : FnR X.prog X.w X.K X.mg X.base (L2.CX X.prog X.w) k g sp) (hr : Room k X.A) (hx : ∀ σ, PassesAt (L2.CX X.prog X.w) X σ E) (h0 : OpR X (binaryOp op) r) : OpR X (binaryOp op) (oOwnN X.K c sp E r) := by
  obtain ⟨fo, ro, f1, f2⟩ := iop.ex
  intro pins s σ H x y v u Q I rx ry q
  have left : ∀ a i, x = .ref a → y = .int i → IsO X.K H c a (sp [.ref a, .int i] H Q E) → wpAny (model X.prog X.w) X.A (binaryOp op v u) (EP X pins σ Q) X.xe s := by
    intro a i ex ey q
    subst ex ey
    cases rx
    obtain ⟨t, rfl⟩ := ry
    obtain ⟨⟨dx, vs, hsl⟩, q⟩ := q
    obtain ⟨sl, od, _, J, _⟩ := SlX.slt_inst I hsl
    obtain ⟨m, hF⟩ := I.fr
    refine PySem.W.ksp_binT (T := "int") hF I.ok.mod.kin J rfl (mf_first mf) hm.at_ hm.fn hn (.inl rfl) (f1 _) (f2 _) sub_int ?_
    refine wpAny_mono (run_op (us := [.ref a, .int i t]) (vs := [.ref a, .int i]) F hr I.env0 hx I (.cons rfl (.cons ⟨t, rfl⟩ .nil)) q) (fun w s' z => ?_) fun _ _ x => x
    obtain ⟨z', H', I', rz, qz⟩ := z
    exact SlX.cmpback rz ⟨z', H', I', rz, qz⟩
  cases x <;> cases y <;> first | exact left _ _ rfl rfl q | exact h0 pins s σ H _ _ v u Q I rx ry q
end
/-! ### == of two tuples of instances with their own == -/
section
variable {prog : Program} {w : World} {A : Around} {R : Result → Shared → Prop}
theorem tuple_eqB (l b : Addr) (items items2 : Array Value) (n n2 : Nat) (dd dd2 : Option Addr) (sl sl2 : Array (Option Value)) (bs : Nat → Bool) (I : Nat → Shared → Prop)
    (turn : ∀ i (h1 : i < items.size) (h2 : i < items2.size) s, I i s → wpAny (model prog w) A.in1 (eqBool items[i] items2[i]) (fun r s' => r = bs i ∧ I (i + 1) s') (fun e s' => R (.error e) s') s)
    (fin : ∀ i s (r : Bool), I i s → (r = true ↔ items.size = items2.size ∧ ∀ j, j < items.size → bs j = true) → R (.ok (.ret (.bool r))) s) {s : Shared}
    (hl1 : s.heap.get? l = some { cls := .type "tuple", dict := dd, data := .seq items n, slots := sl }) (hb1 : s.heap.get? b = some { cls := .type "tuple", dict := dd2, data := .seq items2 n2, slots := sl2 }) (h : I 0 s) :
    wpAny (model prog w) A.in1 (Builtin.«tuple.__eq__» ⟨[.ref l, .ref b], []⟩) (GQ.FinOf prog w A R) (fun e s' => R (.error e) s') s := by
  have f2 := AutoSeq1.sub_tuple_tuple
  have hZ : (items.toList.zip items2.toList).length = min items.size items2.size := by simp
  have h0 := h
  obtain ⟨hp, g, d, tk, os⟩ := s
  wp_walk using AutoSeq1.wpAny_loadPart' hl1, AutoSeq1.wpAny_loadPart' hb1, wpAny_forIn_list _ (fun rest b s' => b.1 = none ∧ ∃ i, rest = (items.toList.zip items2.toList).drop i ∧ i ≤ min items.size items2.size ∧ (∀ j, j < i → bs j = true) ∧ I i s') _
  case turn =>
    rintro ⟨y, x⟩ rest b s' ⟨hb', i, hz, hi, hj, hI⟩
    have hlt : i < (items.toList.zip items2.toList).length := by
      rcases Nat.lt_or_ge i (items.toList.zip items2.toList).length with h' | h'
      · exact h'
      · rw [List.drop_of_length_le h'] at hz; cases hz
    have h1 : i < items.size := by omega
    have h2 : i < items2.size := by omega
    rw [List.drop_eq_getElem_cons hlt] at hz
    injection hz with hyx hrest
    have hy : y = items[i] := by have := congrArg Prod.fst hyx; simpa using this
    have hx : x = items2[i] := by have := congrArg Prod.snd hyx; simpa using this
    subst hy hx
    refine wpAny_bind (wpAny_mono (turn i h1 h2 s' hI) (fun r s2 q2 => ?_) fun _ _ x => x)
    obtain ⟨hr, q2⟩ := q2
    subst hr
    cases hbi : bs i with
    | true =>
      wp_walk
      refine ⟨rfl, i + 1, hrest, by omega, fun j hj' => ?_, q2⟩
      by_cases e : j = i
      · rw [e]; exact hbi
      · exact hj j (by omega)
    | false =>
      have hR : R (.ok (.ret (.bool false))) s2 := fin _ s2 false q2 ⟨(fun z => nomatch z), fun z => by rw [z.2 i h1] at hbi; cases hbi⟩
      wp_walk
      exact hR
  case fin =>
    rintro ⟨b1, b2⟩ s' ⟨hb', i, hz, hi, hj, hI⟩
    simp only at hb'
    subst hb'
    have hge : min items.size items2.size ≤ i := by
      rcases Nat.lt_or_ge i (items.toList.zip items2.toList).length with h' | h'
      · rw [List.drop_eq_getElem_cons h'] at hz; cases hz
      · exact hZ ▸ h'
    have hR : R (.ok (.ret (.bool (items.size == items2.size)))) s' := fin _ s' _ hI (by
      rw [beq_iff_eq]
      exact ⟨fun e => ⟨e, fun j hj' => hj j (by omega)⟩, fun e => e.1⟩)
    wp_walk
    exact hR
  case h =>
    exact ⟨rfl, 0, rfl, Nat.zero_le _, (fun j hj => absurd hj (Nat.not_lt_zero _)), h0⟩
theorem rc_tupB {E : Value → Shared → Prop} {s : Shared} {l b : Addr} {items items2 : Array Value} {Q : Value → Shared → Prop} (hu : A.units < cLine) (bs : Nat → Bool) (I : Nat → Shared → Prop)
    (hl : s.heap.IsTuple l items) (hb : s.heap.IsTuple b items2)
    (turn : ∀ i (h1 : i < items.size) (h2 : i < items2.size) s, I i s → wpAny (model prog w) A.in1 (eqBool items[i] items2[i]) (fun r s' => r = bs i ∧ I (i + 1) s') E s)
    (fin : ∀ i s (r : Bool), I i s → (r = true ↔ items.size = items2.size ∧ ∀ j, j < items.size → bs j = true) → Q (.bool r) s) (h : I 0 s) : wpAny (model prog w) A (richCompare .Eq (.ref l) (.ref b)) Q E s := by
  obtain ⟨⟨cls, dd, data, sl⟩, ho, hc, n, hd⟩ := id hl
  obtain ⟨⟨cls2, dd2, data2, sl2⟩, ho2, hc2, n2, hd2⟩ := id hb
  simp only at hc hd hc2 hd2
  subst hc hd hc2 hd2
  refine wpAny_richCompare_same_room (op := .Eq) ⟨_, ho, rfl⟩ ⟨_, ho2, rfl⟩ F.slot_tuple_eq (GQ.call_here F.slot_tuple_eq ⟨_, ho, rfl⟩ F.entry_tuple_eq (F.args_tuple_eq_2 _ _) ?_) hu
  exact tuple_eqB (R := wants (fun v s' => v ≠ .notImplemented ∧ Q v s') E) l b items items2 n n2 dd dd2 sl sl2 bs I turn (fun i s' r q e => ⟨(fun x => nomatch x), fin i s' r q e⟩) ho ho2 h
end
/-- two tuples of instances of c: their own == answers by bs -/
structure EqT (K : Frag) (c : Str) (sp : Sp) (E : XK) (H : Hp) (a b : Addr) (k : Bool → Hp → Prop) : Prop where
  ex : ∃ (xs ys : List V) (bs : Nat → Bool) (r : Bool), SqT K H a xs ∧ SqT K H b ys ∧
    (∀ (i : Nat) x y, xs[i]? = some x → ys[i]? = some y → ∃ p q, x = .ref p ∧ y = .ref q ∧ (p = q → bs i = true) ∧ ∀ H', Same H H' → IsO K H' c p (IsO K H' c q (sp [.ref p, .ref q] H' (fun v H2 => v = .bl (bs i) ∧ Same H' H2) E))) ∧
    (r = true ↔ xs.length = ys.length ∧ ∀ j, j < xs.length → bs j = true) ∧ ∀ H', Same H H' → k r H'
section
variable {X : Cx} {k : Nat} {g : Addr} {sp : Sp} {E : XK} {c : Str}
theorem eqT_run (hm : Meth X.K (He.ga X.K c) "__eq__" g) (F : FnR X.prog X.w X.K X.mg X.base (L2.CX X.prog X.w) k g sp) (hr : Room (k + 1) X.A) (hx : ∀ σ, PassesAt (L2.CX X.prog X.w) X σ E) {pins : List (Addr × Obj)} {s : Shared} {σ : L2.St} {H : Hp} {a b : Addr} {Q : VK} (I : Inv X pins σ H s)
    (q : EqT X.K c sp E H a b fun r H' => Q (.bl r) H') : wpAny (model X.prog X.w) X.A (richCompare .Eq (.ref a) (.ref b)) (EP X pins σ Q) X.xe s := by
  obtain ⟨⟨xs, ys, bs, r, ha, hb, hi, hr2, q⟩⟩ := q
  obtain ⟨its, rv, e, z⟩ := I.tuple ha
  obtain ⟨its2, rv2, e2, z2⟩ := I.tuple hb
  have l1 := rv.length
  have l2 := rv2.length
  refine rc_tupB hr.units0 bs (fun _ s' => ∃ H', Inv X pins σ H' s' ∧ Same H H') e e2 ?_ ?_ ⟨H, I, Same.refl _⟩
  · rintro i h1 h2 s' ⟨H', I', e'⟩
    have h1' : i < its.length := by simpa using h1
    have h2' : i < its2.length := by simpa using h2
    have g1 : its[i]? = some its.toArray[i] := by rw [List.getElem?_eq_getElem h1'] <;> simp
    have g2 : its2[i]? = some its2.toArray[i] := by rw [List.getElem?_eq_getElem h2'] <;> simp
    have k1 : i < xs.length := by omega
    have k2 : i < ys.length := by omega
    obtain ⟨u, hu, ru⟩ := rv.get (List.getElem?_eq_getElem k1)
    obtain ⟨v, hv, rvv⟩ := rv2.get (List.getElem?_eq_getElem k2)
    rw [g1] at hu
    rw [g2] at hv
    rw [Option.some.inj hu, Option.some.inj hv]
    obtain ⟨p, p2, ex, ey, hsame, hown⟩ := hi i _ _ (List.getElem?_eq_getElem k1) (List.getElem?_eq_getElem k2)
    rw [ex] at ru
    rw [ey] at rvv
    cases ru
    cases rvv
    by_cases hpp : p = p2
    · subst hpp
      rw [hsame rfl]
      exact SeqAt.EqAt.same (A := X.A.in1) (s := s') (.ref p) X.prog X.w X.xe _ ⟨rfl, H', I', e'⟩
    · obtain ⟨⟨dx, vs, hsl⟩, ⟨⟨dy, ws, hsl2⟩, q1⟩⟩ := hown H' e'
      obtain ⟨sl, od, _, J, _⟩ := SlX.slt_inst I' hsl
      obtain ⟨sl', od', _, J', _⟩ := SlX.slt_inst I' hsl2
      obtain ⟨m, hF⟩ := I'.fr
      have hr1 : Room k X.A.in1 := Room.in1 hr
      refine GQ.eqBool_refG hpp ?_
      refine PySem.W.cmp_K (op := .Eq) (tb := .ref (He.ga X.K c)) hr1.units0 hF I'.ok.mod.kin J J'.type (by unfold PySem.W.notFirst; simp) hm.at_ hm.fn ?_
      refine wpAny_mono (run_op (us := [.ref p, .ref p2]) (vs := [.ref p, .ref p2]) F hr1 I'.env0.in1 hx I' (.cons rfl (.cons rfl .nil)) q1) (fun w s2 z => ?_) fun _ _ x => x
      obtain ⟨z', H2, I2, rz, ez, e3⟩ := z
      subst ez
      cases rz
      exact ⟨_, rfl, rfl, H2, I2, e'.trans e3⟩
  · rintro i s' b' ⟨H', I', e'⟩ hb'
    have eb : b' = r := by
      rw [Bool.eq_iff_iff, hb', hr2]
      simp only [List.size_toArray]
      rw [← l1, ← l2]
    subst eb
    exact ⟨.bl b', H', I', rfl, q H' e'⟩
/-- x == y: of tuples of instances of c; of instances by their own def; of data -/
structure EqOT (K : Frag) (c : Str) (sp : Sp) (E : XK) (H : Hp) (a b : Addr) (Q : VK) : Prop where
  ex : EqOr K c H a b (sp [.ref a, .ref b] H Q E) (fun k => Q (.bl k) H) ∨ EqT K c sp E H a b fun r H' => Q (.bl r) H'
def oEqT (K : Frag) (c : Str) (sp : Sp) (E : XK) : R2 := fun x y H Q => match x, y with
  | .ref a, .ref b => EqOT K c sp E H a b Q
  | x, y => oEq K x y H Q
theorem op_eqT (hm : Meth X.K (He.ga X.K c) "__eq__" g) (F : FnR X.prog X.w X.K X.mg X.base (L2.CX X.prog X.w) k g sp) (hr : Room (k + 1) X.A) (hx : ∀ σ, PassesAt (L2.CX X.prog X.w) X σ E) : OpR X (compareOp .Eq) (oEqT X.K c sp E) := by
  have h1 : OpR X (compareOp .Eq) (oEqO X.K c sp E) := op_eqO hm F (hr.mono (Nat.le_succ _)) hx
  have h0 : OpR X (compareOp .Eq) (oEq X.K) := o_eq hr.units
  intro pins s σ H x y v u Q I rx ry q
  have two : ∀ a b, x = .ref a → y = .ref b → EqOT X.K c sp E H a b Q → wpAny (model X.prog X.w) X.A (compareOp .Eq v u) (EP X pins σ Q) X.xe s := by
    intro a b ex ey q1
    clear q
    subst ex ey
    rcases q1.ex with q | q
    · exact h1 pins s σ H _ _ v u Q I rx ry q
    · cases rx
      cases ry
      exact eqT_run hm F hr hx I q
  cases x <;> cases y <;> first
    | exact two _ _ rfl rfl q
    | exact h0 pins s σ H _ _ v u Q I rx ry q
end
end S
namespace S
open PySem PySem.Spec PyProof.Rows L2
/-! ### x op y: two instances of c by their own def; two others by r -/
structure OwnOr (K : Frag) (H : Hp) (c : Str) (a b : Addr) (P R : Prop) : Prop where
  ex : IsO K H c a (IsO K H c b P) ∨ R
theorem OwnOr.own {K : Frag} {H : Hp} {c : Str} {a b : Addr} {P R : Prop} (h : IsO K H c a (IsO K H c b P)) : OwnOr K H c a b P R := ⟨.inl h⟩
theorem OwnOr.dat {K : Frag} {H : Hp} {c : Str} {a b : Addr} {P R : Prop} (h : R) : OwnOr K H c a b P R := ⟨.inr h⟩
section
variable {X : Cx} {k kR : Nat} {g gR : Addr} {sp spR : Sp} {E : XK} {c : Str} {ups : List Str} {tys : List String}
def oOwnJ (K : Frag) (c : Str) (sp spR : Sp) (E : XK) (r : R2) : R2 := fun x y H Q => match x, y with
  | .ref a, .ref b => OwnOr K H c a b (sp [.ref a, .ref b] H Q E) (r (.ref a) (.ref b) H Q)
  | .ref a, .int i => IsO K H c a (sp [.ref a, .int i] H Q E)
  | .int i, .ref b => IsO K H c b (spR [.ref b, .int i] H Q E)
  | x, y => r x y H Q
theorem op_ownJ {op : Operator} {r : R2} (iop : IntOp op) (mf : MF X.K c ups tys) (hty : "int" ∉ tys) (hm : Meth X.K (He.ga X.K c) (PySem.dunder op.info.2) g) (hmR : Meth X.K (He.ga X.K c) (PySem.dunderR op.info.2) gR)
    (F : FnR X.prog X.w X.K X.mg X.base (L2.CX X.prog X.w) k g sp) (FR' : FnR X.prog X.w X.K X.mg X.base (L2.CX X.prog X.w) kR gR spR) (hr : Room k X.A) (hrR : Room kR X.A) (hx : ∀ σ, PassesAt (L2.CX X.prog X.w) X σ E) (h0 : OpR X (binaryOp op) r) : OpR X (binaryOp op) (oOwnJ X.K c sp spR E r) := by
  have h1 : OpR X (binaryOp op) (oOwnI X.K c sp spR E r) := op_ownI iop mf hty hm hmR F FR' hr hrR hx h0
  intro pins s σ H x y v u Q I rx ry q
  have two : ∀ a b, x = .ref a → y = .ref b → OwnOr X.K H c a b (sp [.ref a, .ref b] H Q E) (r (.ref a) (.ref b) H Q) → wpAny (model X.prog X.w) X.A (binaryOp op v u) (EP X pins σ Q) X.xe s := by
    intro a b ex ey q1
    clear q
    subst ex ey
    rcases q1.ex with q | q
    · exact h1 pins s σ H _ _ v u Q I rx ry q
    · exact h0 pins s σ H _ _ v u Q I rx ry q
  cases x <;> cases y <;> first | exact two _ _ rfl rfl q | exact h1 pins s σ H _ _ v u Q I rx ry q
end
end S
namespace S
open PySem PySem.Spec PyProof.Rows L2
/-! ### the head's look, over what the named ones reach -/
def nsG (g : Addr → Option Obj) (ns : Addr) (x : Str) : List Addr := match g ns with
  | some ⟨_, _, .dict es _, _⟩ => (match es.toList.find? (·.key.isStr x) with
    | some e => He.refV e.val
    | none => [])
  | _ => []
def rfY (o : Obj) : List Addr := match o.data with
  | .cls cd => [cd.ns]
  | .func fd => He.refV fd.code ++ (He.refV fd.defaults ++ (He.refV fd.kwdefaults ++ fd.closure.map (·.2)))
  | .dict es _ => es.toList.flatMap fun e => He.refV e.val
  | .seq its _ => its.toList.flatMap He.refV
  | .fields vs => (match o.cls == .type "code" with
    | true => []
    | false => vs.toList.flatMap He.refV)
  | _ => []
def stepY (g : Addr → Option Obj) (as : List Addr) : List Addr := as.flatMap fun a => match g a with
  | some o => rfY o
  | none => []
def lvY (g : Addr → Option Obj) : Nat → List Addr → List Addr
  | 0, as => as
  | n + 1, as => as ++ lvY g n (stepY g as)
def asY (names : List Str) (g : Addr → Option Obj) : List Addr := mainGlobals :: cStatics :: lvY g 4 (names.flatMap (nsG g mainGlobals))
def obsYG (names : List Str) (fa : List He.Fa) (fx : List (Frag → Bool)) (fn : List DfX) (g : Addr → Option Obj) : AlX := obsK fa fx fn (He.frG g (asY names g))
def hookY (names : List Str) (fa : List He.Fa) (fx : List (Frag → Bool)) (fn : List DfX) : PySem.W.Hook where
  α := AlX
  obs := fun s => obsYG names fa fx fn s.heap.get?
  val := fun _ => valX fn
  says := fun _ h => ∃ K : Frag, K.In h ∧ SaysX fa fx fn K
  of := fun _ _ e => ⟨_, He.frG_in, e⟩
  keeps := fun _ _ _ ⟨K, hK, c⟩ k => ⟨K, PySem.W.Frag.In.keeps hK k, c⟩
theorem obsYG_eq {names : List Str} {fa : List He.Fa} {fx : List (Frag → Bool)} {fn : List DfX} {g : Addr → Option Obj} {s : Shared} (h : ∀ a, g a = s.heap.get? a) : obsYG names fa fx fn g = (hookY names fa fx fn).obs s := by
  have e : g = s.heap.get? := funext h
  rw [e] <;> rfl
theorem run_split2 {σ β γ : Type} {o : Option σ} {f : σ → Bool} {g : σ → β} {h : σ → γ} {v2 : β} {v3 : γ} (h1 : o.map (fun s => (f s, g s)) = some (true, v2)) (h2 : o.map h = some v3) : o.map (fun s => (f s, g s, h s)) = some (true, v2, v3) := by
  cases o with
  | none => cases h1
  | some s =>
    have e1 : (f s, g s) = (true, v2) := Option.some.inj h1
    have e2 : h s = v3 := Option.some.inj h2
    obtain ⟨e3, e4⟩ := Prod.mk.inj e1
    show some (f s, g s, h s) = _
    rw [e3, e4, e2]
end S
namespace S
open PySem PySem.Spec PyProof.Rows L2
/-! ### classes whose instances have a dict -/
structure DF (K : Frag) (x : Str) (ups : List Str) (fs : List Str) : Prop where
  mf : MF K x ups ["object"]
  cl : Cls K (He.ga K x)
  ha : PySem.W.findIn K (.ref (He.ga K x)) "__class__" = some (some (.builtin "object.__class__"))
  hn : PySem.W.specialIn K (.builtin "object.__class__") "__get__" = some (some (.builtin "getset_descriptor.__get__"))
  ht : PySem.W.takesIn K (.builtin "object.__class__") = some true
  hm : PySem.W.mroIn K (He.ga K x) (.type "object") = some true
  na : ∀ f ∈ fs, NoAttr K (He.ga K x) f
def dfB (x : Str) (ups fs : List Str) (K : Frag) : Bool := mfB K x ups ["object"] && ((He.Fa.cls x).ok K && (He.eqO (PySem.W.findIn K (.ref (He.ga K x)) "__class__") (some (some (.builtin "object.__class__"))) && (He.eqO (PySem.W.specialIn K (.builtin "object.__class__") "__get__") (some (some (.builtin "getset_descriptor.__get__"))) &&
  (decide (PySem.W.takesIn K (.builtin "object.__class__") = some true) && (decide (PySem.W.mroIn K (He.ga K x) (.type "object") = some true) && fs.all fun f => He.eqO (PySem.W.findIn K (.ref (He.ga K x)) f) (some none))))))
theorem dfB_ok {K : Frag} {x : Str} {ups fs : List Str} (h : dfB x ups fs K = true) : DF K x ups fs := by
  obtain ⟨h1, h⟩ := He.ba h
  obtain ⟨h2, h⟩ := He.ba h
  obtain ⟨h3, h⟩ := He.ba h
  obtain ⟨h4, h⟩ := He.ba h
  obtain ⟨h5, h⟩ := He.ba h
  obtain ⟨h6, h7⟩ := He.ba h
  exact ⟨mfB_ok h1, He.cls_ok h2, He.eqO_ok h3, He.eqO_ok h4, of_decide_eq_true h5, of_decide_eq_true h6, fun f hf => He.eqO_ok (List.all_eq_true.mp h7 f hf)⟩
section
variable {K : Frag} {H : Hp} {a dx : Addr} {x f : Str} {ups fs : List Str} {as : List (Str × V)}
theorem Atr.df {k : V → Prop} {v : V} (c : DF K x ups fs) (h : H a = some (.ins (He.ga K x) dx as)) (l : as.lookup f = some v) (q : k v) (hf : f ∈ fs := by decide) : Atr K H a f k := ⟨.inr ⟨_, dx, as, v, h, c.cl, c.na f hf, l, q⟩⟩
theorem Sto.df {k : Hp → Prop} {y : V} (c : DF K x ups fs) (h : H a = some (.ins (He.ga K x) dx as)) (l : as.length < 1000) (q : k (upd H a (.ins (He.ga K x) dx (putF f y as)))) (hf : f ∈ fs := by decide) : Sto K H a f y k := ⟨.inr ⟨_, dx, as, h, c.cl, c.na f hf, l, q⟩⟩
theorem Isi.df {y : Str} {ups' : List Str} {tys' : List String} {k : Bool → Prop} (c : DF K x ups fs) (h : H a = some (.ins (He.ga K x) dx as)) (n : MF K y ups' tys') (q : k (decide (y ∈ x :: ups))) : Isi K H (.ref a) (.ref (He.ga K y)) k :=
  Isi.of (.base (.ins h c.cl c.ha c.hn c.ht c.hm)) (mf_kit c.mf n) q
end
/-! ### methods, properties of such instances -/
structure IsD (K : Frag) (H : Hp) (c m : Str) (a : Addr) (q : Prop) : Prop where
  ex : ∃ dx fs, H a = some (.ins (He.ga K c) dx fs) ∧ fs.lookup m = none
  q : q
theorem IsD.of {K : Frag} {H : Hp} {c m : Str} {a dx : Addr} {fs : List (Str × V)} {q : Prop} (h : H a = some (.ins (He.ga K c) dx fs)) (h2 : q) (l : fs.lookup m = none := by rfl) : IsD K H c m a q := ⟨⟨dx, fs, h, l⟩, h2⟩
def dMethD (K : Frag) (c m : Str) (sp : Sp) (E : L2.St → XK) (ta : TE) (t : TA) : TE := fun σ H Q => ta σ H fun x H1 => match x with
  | .ref a => IsD K H1 c m a (t σ H1 fun ws H2 => sp (.ref a :: ws) H2 Q (E σ))
  | _ => False
section
variable {X : Cx} {k : Nat} {g : Addr} {sp : Sp} {E : L2.St → XK} {x c m : Str} {p pos apos : Pos} {e o : Expr} {es : List Expr} {t : TA} {ta : TE}
theorem pe_methD {pl : Sem Bool} (hc : Cls X.K (He.ga X.K c)) (hm : Meth X.K (He.ga X.K c) m g) (F : FnR X.prog X.w X.K X.mg X.base (L2.CX X.prog X.w) k g sp) (hr : Room k X.A) (hx : ∀ σ, PassesAt (L2.CX X.prog X.w) X σ (E σ)) (he : PE X o ta) (ha : PA X (e :: es) t)
    (hst : starEach (e :: es) X.env = (false, eval e X.env) :: starEach es X.env := by rfl) (hpl : (backTo pos (starEach es X.env)).any (·.1) = false := by rfl)
    (ht : eval (.Call (.Attribute o m apos) (e :: es) [] pos) X.env = (do
      let ov ← eval o X.env
      standAt apos.atName
      let (f, first) ← holding [ov] (getMethod ov m pl)
      callWith pos f first (backTo pos (starEach (e :: es) X.env)) (backToKw pos (keywordEach [] X.env))) := by rfl) :
    PE X (.Call (.Attribute o m apos) (e :: es) [] pos) (dMethD X.K c m sp E ta t) := by
  refine ⟨fun pins s σ H Q I h => ?_⟩
  refine PySem.W.methodCall_KW (pl := pl) (thn (he.run pins s σ H _ I h) fun u s1 ⟨x, H1, I1, rx, q⟩ => ?_) ht
  cases x <;> try exact q.elim
  cases rx
  obtain ⟨⟨dx, fs, ea, l⟩, q⟩ := q
  refine getmeth_ok I1 ea hc hm l ?_
  refine PySem.W.callWith_K (first := [.ref _]) (h₀ := X.base) I.ok.mod.kin hm.kp (thn (ha.run pos pins s1 σ H1 _ I1 q) fun us s2 ⟨ws, H2, I2, r, q2⟩ => ⟨I2.kIn, ?_⟩) hst hpl
  exact run_R (us := .ref _ :: us) (vs := .ref _ :: ws) F hr (hx σ) I2 (.cons rfl r) q2
theorem pe_methD0 {pl : Sem Bool} (hc : Cls X.K (He.ga X.K c)) (hm : Meth X.K (He.ga X.K c) m g) (F : FnR X.prog X.w X.K X.mg X.base (L2.CX X.prog X.w) k g sp) (hr : Room k X.A) (hx : ∀ σ, PassesAt (L2.CX X.prog X.w) X σ (E σ)) (he : PE X o ta)
    (ht : eval (.Call (.Attribute o m apos) [] [] pos) X.env = (do
      let ov ← eval o X.env
      standAt apos.atName
      let (f, first) ← holding [ov] (getMethod ov m pl)
      callWith pos f first (backTo pos (starEach [] X.env)) (backToKw pos (keywordEach [] X.env))) := by rfl) :
    PE X (.Call (.Attribute o m apos) [] [] pos) (dMethD X.K c m sp E ta tNil) := by
  refine ⟨fun pins s σ H Q I h => ?_⟩
  refine PySem.W.methodCall_KW (pl := pl) (thn (he.run pins s σ H _ I h) fun u s1 ⟨x, H1, I1, rx, q⟩ => ?_) ht
  cases x <;> try exact q.elim
  cases rx
  obtain ⟨⟨dx, fs, ea, l⟩, q⟩ := q
  refine getmeth_ok I1 ea hc hm l ?_
  exact PySem.W.callWith_K0 (first := [.ref _]) I1.kIn hm.kp (run_R (us := [.ref _]) (vs := [.ref _]) F hr (hx σ) I1 (.cons rfl .nil) q)
def dPropD (K : Frag) (c f : Str) (sp : Sp) (ta : TE) : TE := fun σ H Q => ta σ H fun x H1 => match x with
  | .ref a => IsD K H1 c f a (sp [.ref a] H1 Q E0)
  | _ => False
theorem pe_propD {f : Str} {n : Nat} (hc : Cls X.K (He.ga X.K c)) (pf : PropF X.K c f g) (F : FnR X.prog X.w X.K X.mg X.base (L2.CX X.prog X.w) n g sp) (hr : Room (n + 1) X.A) (he : PE X e ta)
    (hb : attributeBase e f X.env (eval e X.env) = eval e X.env := by rfl) : PE X (.Attribute e f pos) (dPropD X.K c f sp ta) := by
  refine ⟨fun pins s σ H Q I h => ?_⟩
  refine attr_of hb (thn (he.run pins s σ H _ I h) fun w s1 ⟨x, H1, I1, rx, q⟩ => ?_)
  cases x <;> try exact q.elim
  cases rx
  obtain ⟨⟨dx, fs, ea, l⟩, q⟩ := q
  obtain ⟨mA, O, _, _, _, _⟩ := ins_get I1.hok ea
  obtain ⟨od, J, _⟩ := O.look
  obtain ⟨rest, hrec⟩ := pf.rc
  have I2 := I1.tok (s1.toks + 1)
  have hcl : (PySem.W.clsIn X.K (He.ga X.K c)).isSome = true := by
    obtain ⟨cd, h2, _⟩ := PySem.W.any_some hc.hd
    rw [h2]
    rfl
  refine PySem.W.get_bind I1.kIn J (PySem.W.plainGet_of (hc.get f)).1 (PySem.W.findObj_data hcl pf.at_ pf.get pf.tk) (PySem.W.plainGet_of (hc.get f)).2 (wpAny_call (PySem.W.prop_get (s := { s1 with toks := s1.toks + 1 }) I1.kIn hrec ?_))
  refine codeAny_mono (F X.A.in1 X.stack { s1 with toks := s1.toks + 1 } H1 [.ref _] [.ref _] Q E0 hr.in1 I2.env0.in1 (.cons rfl .nil) q) fun r s' hq => ?_
  cases r with
  | error er =>
    obtain ⟨_, _, _, _, _, _, _, _, _, _, _, _, z⟩ := hq
    exact z.elim
  | ok fl =>
    cases fl with
    | ret u =>
      obtain ⟨v, H', I3, rv, q3⟩ := I2.after hq
      exact wpAny_of_eq (PySem.W.handedOut_of (handed_of rv)) ⟨v, H', I3, rv, q3⟩
    | next => exact False.elim hq
    | brk => exact False.elim hq
    | cont => exact False.elim hq
end
/-! ### calls with keywords -/
structure FK (P : Program) (w : World) (K : Frag) (mg : Str → Option Value) (base : Heap) (k : Nat) (f : Addr) (n : Nat) (ks : List Str) (sp : Sp) (gV : List V → List V → List V) : Prop where
  ex : ∃ (fd : FuncData) (ps : List Str) (g : List Value → List Value → List Value), FnOk P w K mg base (L2.CX P w) k f fd ps sp ∧ KBn K fd ps n ks g gV
theorem mk_fnK {P : Program} {w : World} {K : Frag} {mg : Str → Option Value} {base : Heap} {x qual : Str} {params : Arguments} {body : List Stmt} {scope : Scope} {f : Addr} {fd : FuncData} {N ps ks : List Str} {k n : Nat} {sp : Sp} {dvs : List V} {kws : List (Str × V)} {gV : List V → List V → List V} (F : FunD K x qual params body scope dvs kws f fd) (S : FnScope N ps scope)
    (len : ∀ vs H Q E, sp vs H Q E → vs.length = ps.length) (hb : ∃ g, KBn K fd ps n ks g gV) {t : XK → TS}
    (hbody : ∀ (cdv : Value) (A : Around) (outer : List Env) (s : Shared) (H : Hp) (E : XK), Room k (A.deeper (envOfC qual scope s.heap.objs.size f cdv)) →
      PSs (cxD P w K mg base N qual scope f cdv A outer s H E) body (t E))
    (pure : ∀ vs H Q E, sp vs H Q E → t E { nx := fun _ H' => Q .non H', rt := Q } (start N vs) H) : FK P w K mg base (k + 1) f n ks sp gV := by
  obtain ⟨g, hb⟩ := hb
  exact ⟨fd, ps, g, FunD.ok (P := P) (w := w) (mg := mg) (base := base) (CX := L2.CX P w) (sp := sp) F S len fun cdv A outer s H vs Q E hr h => ⟨t E, hbody cdv A outer s H E hr, pure vs H Q E h⟩, hb⟩
def dCallK (n m : Nat) (sp : Sp) (gV : List V → List V → List V) (E : L2.St → XK) (t tk : TA) : TE := fun σ H Q => t σ H fun vs H1 => tk σ H1 fun zs H2 => vs.length = n ∧ zs.length = m ∧ sp (gV vs zs) H2 Q (E σ)
def dMethDK (K : Frag) (c mt : Str) (n m : Nat) (sp : Sp) (gV : List V → List V → List V) (E : L2.St → XK) (ta : TE) (t tk : TA) : TE := fun σ H Q => ta σ H fun x H1 => match x with
  | .ref a => IsD K H1 c mt a (t σ H1 fun vs H2 => tk σ H2 fun zs H3 => vs.length + 1 = n ∧ zs.length = m ∧ sp (gV (.ref a :: vs) zs) H3 Q (E σ))
  | _ => False
section
variable {X : Cx} {k n : Nat} {f g : Addr} {ks : List Str} {sp : Sp} {E : L2.St → XK} {x c m : Str} {p pos apos : Pos} {e o : Expr} {es : List Expr} {kws : List Keyword} {t tk : TA} {ta : TE} {gV : List V → List V → List V}
theorem run_FK {pins : List (Addr × Obj)} {σ : L2.St} {H : Hp} {s : Shared} {Q : VK} {us ws : List Value} {vs zs : List V} (F : FK X.prog X.w X.K X.mg X.base k f n ks sp gV) (hr : Room k X.A) (hx : PassesAt (L2.CX X.prog X.w) X σ (E σ))
    (I : Inv X pins σ H s) (r : Vals vs us) (rz : Vals zs ws) (l1 : vs.length = n) (l2 : zs.length = ks.length) (h : sp (gV vs zs) H Q (E σ)) : wpAny (model X.prog X.w) X.A (call (.ref f) us (ks.zip ws)) (EP X pins σ Q) X.xe s := by
  obtain ⟨fd, ps, gg, F, hb⟩ := F.ex
  have r2 := hb.rel r rz
  refine wpAny_call (codeAny_mono (F.run X.A X.stack s H ⟨us, ks.zip ws⟩ (gg us ws) (gV vs zs) Q (E σ) hr I.env0 (hb.to s us ws I.kIn (r.length.symm.trans l1) (rz.length.symm.trans l2)) r2 h) fun r s' hq => ?_)
  cases r with
  | error e => exact hx pins H s e s' I hq
  | ok fl =>
    cases fl with
    | ret u => exact I.after hq
    | next => exact False.elim hq
    | brk => exact False.elim hq
    | cont => exact False.elim hq
/-- f(e, .., k = v, ..) -/
theorem pe_callK (F : FK X.prog X.w X.K X.mg X.base k f n ks sp gV) (hr : Room k X.A) (hm : X.mg x = some (.ref f)) (hk : PySem.W.keepIn X.K (.ref f) = true) (hx : ∀ σ, PassesAt (L2.CX X.prog X.w) X σ (E σ))
    (ha : PA X (e :: es) t) (hkw : PK X kws tk) (hg : Gl X x := by rfl) (hall : (backToKw pos (keywordEach kws X.env)).all (·.1.isSome) = true := by rfl) (hks : (backToKw pos (keywordEach kws X.env)).filterMap (·.1) = ks := by rfl)
    (hdb : (x == ("__debug__" : Str)) = false := by decide) (he : starEach (e :: es) X.env = (false, eval e X.env) :: starEach es X.env := by rfl)
    (hpl : ((backTo pos (starEach (e :: es) X.env)).any (·.1) || (backToKw pos (keywordEach kws X.env)).any (·.1.isNone)) = false := by rfl) :
    PE X (.Call (.Name x p) (e :: es) kws pos) (dCallK n ks.length sp gV E t tk) := by
  refine ⟨fun pins s σ H Q I h => ?_⟩
  refine wpAny_Call_Name_kw (ld_glob I hg hm ?_ hdb)
  refine PySem.W.callWith_KW (h₀ := X.base) I.ok.mod.kin hk hall (thn (ha.run pos pins s σ H _ I h) fun us s1 ⟨vs, H1, I1, r, q⟩ => ?_) hpl he
  refine thn (hkw.run pos pins s1 σ H1 _ I1 q) fun ws s2 ⟨zs, H2, I2, rz, l1, l2, q2⟩ => ⟨I2.kIn, ?_⟩
  rw [hks]
  exact run_FK F hr (hx σ) I2 r rz l1 l2 q2
/-- o.m(e, .., k = v, ..), o an instance with a dict -/
theorem pe_methDK {pl : Sem Bool} (hc : Cls X.K (He.ga X.K c)) (hm : Meth X.K (He.ga X.K c) m g) (F : FK X.prog X.w X.K X.mg X.base k g n ks sp gV) (hr : Room k X.A) (hx : ∀ σ, PassesAt (L2.CX X.prog X.w) X σ (E σ)) (he : PE X o ta) (ha : PA X (e :: es) t) (hkw : PK X kws tk)
    (hall : (backToKw pos (keywordEach kws X.env)).all (·.1.isSome) = true := by rfl) (hks : (backToKw pos (keywordEach kws X.env)).filterMap (·.1) = ks := by rfl)
    (hst : starEach (e :: es) X.env = (false, eval e X.env) :: starEach es X.env := by rfl) (hpl : ((backTo pos (starEach (e :: es) X.env)).any (·.1) || (backToKw pos (keywordEach kws X.env)).any (·.1.isNone)) = false := by rfl)
    (ht : eval (.Call (.Attribute o m apos) (e :: es) kws pos) X.env = (do
      let ov ← eval o X.env
      standAt apos.atName
      let (f, first) ← holding [ov] (getMethod ov m pl)
      callWith pos f first (backTo pos (starEach (e :: es) X.env)) (backToKw pos (keywordEach kws X.env))) := by rfl) :
    PE X (.Call (.Attribute o m apos) (e :: es) kws pos) (dMethDK X.K c m n ks.length sp gV E ta t tk) := by
  refine ⟨fun pins s σ H Q I h => ?_⟩
  refine PySem.W.methodCall_KW (pl := pl) (thn (he.run pins s σ H _ I h) fun u s1 ⟨x, H1, I1, rx, q⟩ => ?_) ht
  cases x <;> try exact q.elim
  cases rx
  obtain ⟨⟨dx, fs, ea, l⟩, q⟩ := q
  refine getmeth_ok I1 ea hc hm l ?_
  refine PySem.W.callWith_KW (first := [.ref _]) (h₀ := X.base) I.ok.mod.kin hm.kp hall (thn (ha.run pos pins s1 σ H1 _ I1 q) fun us s2 ⟨vs, H2, I2, r, q2⟩ => ?_) hpl hst
  refine thn (hkw.run pos pins s2 σ H2 _ I2 q2) fun ws s3 ⟨zs, H3, I3, rz, l1, l2, q3⟩ => ⟨I3.kIn, ?_⟩
  rw [hks]
  exact run_FK (us := .ref _ :: us) (vs := .ref _ :: vs) F hr (hx σ) I3 (.cons rfl r) rz (by rw [List.length_cons]; exact l1) l2 q3
end
end S
namespace S
open PySem PySem.Spec PyProof.Rows L2
/-! ### sum(a list of numbers) -/
structure SumL (K : Frag) (H : Hp) (a : Addr) (k : Int → Prop) : Prop where
  ex : ∃ ns : List Int, SqL K H a (ns.map V.int) ∧ k ns.sum
theorem SumL.of {K : Frag} {H : Hp} {a : Addr} {k : Int → Prop} {ns : List Int} (h : H a = some (.lst (ns.map V.int))) (q : k ns.sum) : SumL K H a k := ⟨ns, SqL.of h, q⟩
def cSum (K : Frag) : List V → Hp → VK → Prop := fun xs H Q => match xs with
  | [.ref a] => SumL K H a fun i => Q (.int i) H
  | _ => False
theorem c_sum {X : Cx} (hc : X.calm = true) : CallR X (.builtin "sum") (cSum X.K) := CallR.of (cr_sum hc) fun xs H Q q => by
  match xs, q with
  | [.ref a], ⟨⟨ns, h, q⟩⟩ => exact ⟨a, ns, rfl, h, q⟩
end S
namespace S
open PySem PySem.Spec PyProof.Rows L2
/-! ### x == y of an instance ahead with its own def and anything behind -/
/-- what the model takes the right side for -/
inductive RTy (K : Frag) (H : Hp) : V → Value → Prop where
  | dat {y : V} {d : PyData} (h : Dp K H y d) : RTy K H y (PySem.W.dataType d)
  | ins {b C dx : Addr} {vs : List (Option V)} (h : SlX.Slt H b C dx vs) : RTy K H (.ref b) (.ref C)
structure EqA (K : Frag) (c : Str) (sp : Sp) (E : XK) (H : Hp) (a : Addr) (y : V) (Q : VK) : Prop where
  ex : (∃ t, RTy K H y t ∧ PySem.W.notFirst K (He.ga K c) t = true ∧ IsO K H c a (sp [.ref a, y] H Q E)) ∨ oEq K (.ref a) y H Q
theorem EqA.of {K : Frag} {c : Str} {sp : Sp} {E : XK} {H : Hp} {a dx : Addr} {y : V} {Q : VK} {t : Value} {vs : List (Option V)} (r : RTy K H y t) (n : PySem.W.notFirst K (He.ga K c) t = true) (h : SlX.Slt H a (He.ga K c) dx vs) (q : sp [.ref a, y] H Q E) : EqA K c sp E H a y Q := ⟨.inl ⟨t, r, n, .of h q⟩⟩
theorem EqA.dat {K : Frag} {c : Str} {sp : Sp} {E : XK} {H : Hp} {a : Addr} {y : V} {Q : VK} (q : oEq K (.ref a) y H Q) : EqA K c sp E H a y Q := ⟨.inr q⟩
def oEqA (K : Frag) (c : Str) (sp : Sp) (E : XK) : R2 := fun x y H Q => match x with
  | .ref a => EqA K c sp E H a y Q
  | x => oEq K x y H Q
section
variable {X : Cx} {k : Nat} {g : Addr} {sp : Sp} {E : XK} {c : Str}
theorem op_eqA (hm : Meth X.K (He.ga X.K c) "__eq__" g) (F : FnR X.prog X.w X.K X.mg X.base (L2.CX X.prog X.w) k g sp) (hr : Room k X.A) (hx : ∀ σ, PassesAt (L2.CX X.prog X.w) X σ E) : OpR X (compareOp .Eq) (oEqA X.K c sp E) := by
  have h0 : OpR X (compareOp .Eq) (oEq X.K) := o_eq hr.units
  intro pins s σ H x y v u Q I rx ry q
  have own : ∀ a, x = .ref a → EqA X.K c sp E H a y Q → wpAny (model X.prog X.w) X.A (compareOp .Eq v u) (EP X pins σ Q) X.xe s := by
    intro a ex q1
    clear q
    subst ex
    rcases q1.ex with ⟨t, hy, hn, ⟨⟨dx, vs, hsl⟩, q⟩⟩ | q
    · cases rx
      obtain ⟨sl, od, _, J, _⟩ := SlX.slt_inst I hsl
      obtain ⟨m, hF⟩ := I.fr
      have hb : PySem.W.Looks (model X.prog X.w) s.heap (typeOf u) t := by
        cases hy with
        | dat h =>
          obtain ⟨as, hr⟩ := Dp.reads I _ _ _ h ry
          exact PySem.W.looks_reads hr
        | ins h =>
          cases ry
          obtain ⟨sl', od', _, J', _⟩ := SlX.slt_inst I h
          exact J'.type
      show wpAny _ _ (richCompare .Eq (.ref a) u) _ _ _
      refine PySem.W.cmp_K (op := .Eq) (tb := t) hr.units0 hF I.ok.mod.kin J hb hn hm.at_ hm.fn ?_
      refine wpAny_mono (run_op (us := [.ref a, u]) (vs := [.ref a, y]) F hr I.env0 hx I (.cons rfl (.cons ry .nil)) q) (fun w s' z => ?_) fun _ _ x => x
      obtain ⟨z', H', I', rz, qz⟩ := z
      exact SlX.cmpback rz ⟨z', H', I', rz, qz⟩
    · exact h0 pins s σ H _ _ v u Q I rx ry q
  cases x <;> first
    | exact own _ rfl q
    | exact h0 pins s σ H _ _ v u Q I rx ry q
end
/-- no class of the program stands among the built-in ones -/
theorem nf_int {K : Frag} {C : Addr} : PySem.W.notFirst K C (.type "int") = true := by unfold PySem.W.notFirst; rfl
theorem nf_tup {K : Frag} {C : Addr} : PySem.W.notFirst K C (.type "tuple") = true := by unfold PySem.W.notFirst; rfl
theorem nf_list {K : Frag} {C : Addr} : PySem.W.notFirst K C (.type "list") = true := by unfold PySem.W.notFirst; rfl
theorem nf_non {K : Frag} {C : Addr} : PySem.W.notFirst K C (.type "NoneType") = true := by unfold PySem.W.notFirst; rfl
theorem nf_str {K : Frag} {C : Addr} : PySem.W.notFirst K C (.type "str") = true := by unfold PySem.W.notFirst; rfl
theorem nf_self {K : Frag} {C : Addr} : PySem.W.notFirst K C (.ref C) = true := by unfold PySem.W.notFirst; simp
theorem nf_cls {K : Frag} {x y : Str} {ups ups' : List Str} {tys tys' : List String} (m : MF K x ups tys) (n : MF K y ups' tys') (h : y ∉ x :: ups) : PySem.W.notFirst K (He.ga K y) (.ref (He.ga K x)) = true := by
  have e := mf_cls m n
  obtain ⟨cd, e', _⟩ := n.cd
  change (if ((PySem.W.clsIn K (He.ga K y)).isSome && PySem.W.typeIn K (.ref (He.ga K y)) == some (.type "type")) = true then PySem.W.subIn K (.ref (He.ga K x)) (.ref (He.ga K y)) else none) = _ at e
  rw [if_pos (by rw [e', n.ty]; simp), decide_eq_false h] at e
  unfold PySem.W.notFirst
  rw [e]
  simp
end S
namespace S
open PySem PySem.Spec PyProof.Rows L2
/-! ### == of tuples of instances: what one address means is known in the run -/
theorem relV_inj {x y : V} {u : Value} (h : L2.RelV x u) (h2 : L2.RelV y u) : x = y := by
  have a : Vals [x] [u] := .cons h .nil
  have b : Vals [y] [u] := .cons h2 .nil
  exact List.cons.inj (a.inj b) |>.1
theorem slt_same14 {H H' : Hp} {a C dx : Addr} {vs : List (Option V)} (e : Same H H') (h : SlX.Slt H a C dx vs) : SlX.Slt H' a C dx vs := by
  rcases h with ⟨h, z⟩ | ⟨h, z⟩
  · exact .inl ⟨e _ _ h, z⟩
  · exact .inr ⟨e _ _ h, e _ _ z⟩
/-- what one heap says: tuples have one content -/
def TupOne (K : Frag) (H : Hp) : Prop := ∀ u xs ys, SqT K H u xs → SqT K H u ys → xs = ys
/-- two tuples of instances of c: their own == answers by bs -/
structure EqT2 (K : Frag) (c : Str) (sp : Sp) (E : XK) (H : Hp) (a b : Addr) (k : Bool → Hp → Prop) : Prop where
  ex : ∃ (xs ys : List V) (bs : Nat → Bool) (r : Bool), SqT K H a xs ∧ SqT K H b ys ∧
    (∀ (i : Nat) x y, xs[i]? = some x → ys[i]? = some y → ∃ p q dx vs dy ws, x = .ref p ∧ y = .ref q ∧ SlX.Slt H p (He.ga K c) dx vs ∧ SlX.Slt H q (He.ga K c) dy ws ∧ (TupOne K H → (∀ (j : Nat) v w, vs[j]? = some (some v) → ws[j]? = some (some w) → v = w) → p = q → bs i = true) ∧
      ∀ H', Same H H' → sp [.ref p, .ref q] H' (fun v H2 => v = .bl (bs i) ∧ Same H' H2) E) ∧
    (r = true ↔ xs.length = ys.length ∧ ∀ j, j < xs.length → bs j = true) ∧ ∀ H', Same H H' → k r H'
section
variable {X : Cx} {k : Nat} {g : Addr} {sp : Sp} {E : XK} {c : Str}
theorem eqT2_run (hm : Meth X.K (He.ga X.K c) "__eq__" g) (F : FnR X.prog X.w X.K X.mg X.base (L2.CX X.prog X.w) k g sp) (hr : Room (k + 1) X.A) (hx : ∀ σ, PassesAt (L2.CX X.prog X.w) X σ E) {pins : List (Addr × Obj)} {s : Shared} {σ : L2.St} {H : Hp} {a b : Addr} {Q : VK} (I : Inv X pins σ H s)
    (q : EqT2 X.K c sp E H a b fun r H' => Q (.bl r) H') : wpAny (model X.prog X.w) X.A (richCompare .Eq (.ref a) (.ref b)) (EP X pins σ Q) X.xe s := by
  obtain ⟨⟨xs, ys, bs, r, ha, hb, hi, hr2, q⟩⟩ := q
  refine eqT_run hm F hr hx I ⟨⟨xs, ys, bs, r, ha, hb, fun i x y h1 h2 => ?_, hr2, q⟩⟩
  obtain ⟨p, p2, dx, vs, dy, ws, ex, ey, hs1, hs2, hsame, hown⟩ := hi i x y h1 h2
  refine ⟨p, p2, ex, ey, fun e => ?_, fun H' e' => .of (slt_same14 e' hs1) (.of (slt_same14 e' hs2) (hown H' e'))⟩
  subst e
  refine hsame (fun u zs ws h h' => I.tuple_inj h h') (fun j v w hv hw => ?_) rfl
  obtain ⟨sl, od, r1, J, _⟩ := SlX.slt_inst I hs1
  obtain ⟨sl', od', r2, J', _⟩ := SlX.slt_inst I hs2
  obtain ⟨u1, e1, q1⟩ := r1 j v hv
  obtain ⟨u2, e2, q2⟩ := r2 j w hw
  have hJ := J.1
  have hJ' := J'.1
  rw [hJ] at hJ'
  have es := congrArg (fun o : Option Obj => o.map Obj.slots) hJ'
  have es2 : sl = sl' := Option.some.inj es
  subst es2
  rw [e1] at e2
  cases e2
  exact relV_inj q1 q2
structure EqOT2 (K : Frag) (c : Str) (sp : Sp) (E : XK) (H : Hp) (a b : Addr) (Q : VK) : Prop where
  ex : EqOr K c H a b (sp [.ref a, .ref b] H Q E) (fun k => Q (.bl k) H) ∨ EqT2 K c sp E H a b fun r H' => Q (.bl r) H'
def oEqT2 (K : Frag) (c : Str) (sp : Sp) (E : XK) : R2 := fun x y H Q => match x, y with
  | .ref a, .ref b => EqOT2 K c sp E H a b Q
  | x, y => oEq K x y H Q
theorem op_eqT2 (hm : Meth X.K (He.ga X.K c) "__eq__" g) (F : FnR X.prog X.w X.K X.mg X.base (L2.CX X.prog X.w) k g sp) (hr : Room (k + 1) X.A) (hx : ∀ σ, PassesAt (L2.CX X.prog X.w) X σ E) : OpR X (compareOp .Eq) (oEqT2 X.K c sp E) := by
  have h1 : OpR X (compareOp .Eq) (oEqO X.K c sp E) := op_eqO hm F (hr.mono (Nat.le_succ _)) hx
  have h0 : OpR X (compareOp .Eq) (oEq X.K) := o_eq hr.units
  intro pins s σ H x y v u Q I rx ry q
  have two : ∀ a b, x = .ref a → y = .ref b → EqOT2 X.K c sp E H a b Q → wpAny (model X.prog X.w) X.A (compareOp .Eq v u) (EP X pins σ Q) X.xe s := by
    intro a b ex ey q1
    clear q
    subst ex ey
    rcases q1.ex with q | q
    · exact h1 pins s σ H _ _ v u Q I rx ry q
    · cases rx
      cases ry
      exact eqT2_run hm F hr hx I q
  cases x <;> cases y <;> first
    | exact two _ _ rfl rfl q
    | exact h0 pins s σ H _ _ v u Q I rx ry q
end
end S
namespace S
open PySem PySem.Spec PyProof.Rows L2 GenW
section
variable {prog : Program} {w : World} {A : Around} {R : GenEnd} {Y : Protocol} {n : Nat} {s₀ : Shared} {fs : List Frame} {s : Shared} {env : Env}
theorem seg_forLoop {target : Expr} {it : Value} {body : List Stmt}
    (h : wpAny (model prog w) (A.over (.forLoop target it body [] env) fs) (pyNext it) (fun r s' => match r with
      | none => Seg (model prog w) A R Y n s₀ (.block [] env) ((model prog w).den (.block [] env)) fs s'
      | some v => wpAny (model prog w) (A.over (.forLoop target it body [] env) fs) (letOwnedTupleGo target it v) (fun _ s1 => wpAny (model prog w) (A.over (.forLoop target it body [] env) fs) (assign target env v) (fun _ s2 =>
          Seg (model prog w) A R Y n s₀ (.forLoop target it body [] env) ((execs body env).wrap (fun f => match f with
            | .next | .cont => .pure (.again (.forLoop target it body [] env))
            | .brk => .pure (.done .next)
            | .ret v => .pure (.done (.ret v))) (fun e => (do noteFrame e env; theTreesLotGoes e : Sem Unit).wrap (fun _ => .raise e) .raise id id) id id) fs s2)
        (fun x s' => Seg (model prog w) A R Y n s₀ (.forLoop target it body [] env) ((do noteFrame x env; theTreesLotGoes x : Sem Unit).wrap (fun _ => .raise x) .raise id id) fs s') s1)
        (fun x s' => Seg (model prog w) A R Y n s₀ (.forLoop target it body [] env) ((do noteFrame x env; theTreesLotGoes x : Sem Unit).wrap (fun _ => .raise x) .raise id id) fs s') s')
      (fun x s' => Seg (model prog w) A R Y n s₀ (.forLoop target it body [] env) ((do noteFrame x env; theTreesLotGoes x : Sem Unit).wrap (fun _ => .raise x) .raise id id) fs s') s) :
    Seg (model prog w) A R Y n s₀ (.forLoop target it body [] env) ((model prog w).den (.forLoop target it body [] env)) fs s := by
  show Seg _ A R Y n s₀ _ ((forTurn target it body [] env).onRaise (fun x => do noteFrame x env; theTreesLotGoes x)) fs s
  have hx' : ∀ (x : Value) (s' : Shared), Seg (model prog w) A R Y n s₀ (.forLoop target it body [] env) ((do noteFrame x env; theTreesLotGoes x : Sem Unit).wrap (fun _ => .raise x) .raise id id) fs s' → Seg (model prog w) A R Y n s₀ (.forLoop target it body [] env) ((do noteFrame x env; theTreesLotGoes x : Sem Unit).bind fun _ => .raise x) fs s' := fun x s' hx => by
    rw [Sem.bind_eq_wrap]; exact hx
  unfold forTurn
  rw [Sem.onRaise_eq_wrap]
  refine seg_bind_wrap (wpAny_standAt ?_)
  refine seg_bind_wrap (wpAny_onRaise (wpAny_mono h (fun r s' hr => ?_) fun x s' hx => wpAny_standAt (hx' x s' hx)))
  cases r with
  | none => exact seg_again rfl hr
  | some v =>
    refine seg_bind_wrap (wpAny_mono hr (fun _ s1 h1 => ?_) fun x s' hx => hx' x s' hx)
    refine seg_bind_wrap (wpAny_mono h1 (fun _ s2 h2 => ?_) fun x s' hx => hx' x s' hx)
    rw [Sem.bind_eq_wrap', Sem.wrap_wrap]
    rw [Sem.wrap_congr (execs body env) _ _ (K' := fun f => match f with
            | .next | .cont => .pure (.again (.forLoop target it body [] env))
            | .brk => .pure (.done .next)
            | .ret v => .pure (.done (.ret v))) (H' := (fun e => (do noteFrame e env; theTreesLotGoes e : Sem Unit).wrap (fun _ => .raise e) .raise id id))
        (fun f => by cases f <;> rfl)
        (fun e => by first | exact Sem.bind_eq_wrap _ _ | (show (do noteFrame e env; theTreesLotGoes e : Sem Unit).bind (fun _ => .raise e) = _; rw [Sem.bind_eq_wrap]))]
    exact h2
theorem seg_block0 (h : Seg (model prog w) A R Y n s₀ (.block [] env) (.pure (.done .next)) fs s) : Seg (model prog w) A R Y n s₀ (.block [] env) ((model prog w).den (.block [] env)) fs s := h
end
section
variable {X : Cx}
def tGFor (wi : TI) (g : TG) (tb : TGn) : TGn := fun D ys σ H => wi σ H fun J H1 => ∃ W : Nat → Nat → List V → L2.St → Hp → Prop, (∃ m, W 0 m ys σ H1) ∧ ∀ i m ys σ H, W i m ys σ H →
  (J.stop i H ∧ D.nx ys σ H) ∨ (J.go i H ∧ ∃ N : List V → L2.St → Hp → Prop, (∀ ys' σ' H', N ys' σ' H' → ∃ m', m' < m ∧ W (i + 1) m' ys' σ' H') ∧ ∀ x H', J.yld i H x H' → g x σ H' fun σ2 H2 => tb { D with nx := N, ct := N, bk := D.nx } ys σ2 H2)
theorem gs_for {tg iter : Expr} {body : List Stmt} {wi : TI} {g : TG} {tb : TGn} {pos : Pos} (hp : PassesOwn (model X.prog X.w) X.A X.env X.xe) (hc : X.calm = true) (hi : PI X tg iter wi) (hg : PG X tg g) (hb : GSs X body tb)
    (hs : ∀ x, foldedSetIterable iter X.env x = pure x := by intro _; rfl) : GS X (.For tg iter body [] pos) (tGFor wi g tb) := by
  refine ⟨fun A S ip R n ys s₀ c fs K J gd lv s σ H D gc hn k hI ht => ?_⟩
  obtain ⟨acc, cc, r, I⟩ := hI
  rw [exec_For]
  refine seg_bind_wrap (wpAny_standAt ?_)
  refine seg_bind_wrap ?_
  rw [gc.over]
  refine wpAny_mono (hi.run _ s σ H _ I ht) (fun v s1 h1 => ?_) fun x s' hx => k.exc n s₀ x s' hx
  refine seg_bind_wrap (wpAny_of_eq (hs v) ?_)
  refine seg_bind_wrap (wpAny_standAt ?_)
  refine seg_bind_wrap (wpAny_holding ?_)
  rw [gc.over]
  refine wpAny_mono h1 (fun itv s2 h2 => ?_) fun x s' hx => k.exc n s₀ x s' hx
  obtain ⟨it, fp, tn, It, H2, e, I2, T, st2, f2, W, ⟨m0, w0⟩, turn⟩ := h2
  subst e
  refine seg_call fun p => ?_
  have gl := fun (kk : Result → Sem PySem.Fin) => gc_loop (k := kk) (c' := .forLoop tg (.ref it) body [] X.env) (l := lv []) (kp := []) (p := p) gc rfl rfl
  have fpS : ∀ b ∈ fp, b ≠ S := fun b hb e => (f2 b hb).2.2.2.2.2 (S, lstObj acc cc) (List.mem_append_right _ List.mem_cons_self) e.symm
  have stat : ∀ {H' : Hp} {acc' : Array Value} {cc' : Nat}, (∀ b ∈ fp, H' b = none) → ∀ b ∈ fp, FpOk X ((S, lstObj acc' cc') :: ip) H' b := fun hn b hb => by
    obtain ⟨_, q1, q2, q3, q4, q5⟩ := f2 b hb
    refine ⟨hn b hb, q1, q2, q3, q4, fun p hp => ?_⟩
    rcases List.mem_append.mp hp with hp | hp
    · exact q5 p (List.mem_append_left _ hp)
    · rcases List.mem_cons.mp hp with hp | hp
      · rw [hp]; exact (fpS b hb).symm
      · exact q5 p (List.mem_append_right _ (List.mem_cons_of_mem _ hp))
  have loop : ∀ (m i n : Nat) (ys : List V) (s₀ s : Shared) (σ : L2.St) (H : Hp), n + ys.length = sizeLine → W i m ys σ H → GI X S ip ys σ H s → tn i s.heap → (∀ b ∈ fp, H b = none) →
      Seg (model X.prog X.w) A R (GY X S) n s₀ (.forLoop tg (.ref it) body [] X.env) ((model X.prog X.w).den (.forLoop tg (.ref it) body [] X.env))
        (.ret (fun r => ((match r with | .ok f => (.pure f : Sem Flow) | .error e => .raise e).onRaise (cameBack X.env)).wrap K J gd lv) none (gd false) (lv []) c p [] :: fs) s := by
    intro m
    induction m using Nat.strongRecOn with
    | ind m ih =>
      intro i n ys s₀ s σ H hn w hI st fr
      have ee : ∀ (n : Nat) (s₀ : Shared) (x : Value) (s' : Shared), X.xe x s' → Seg (model X.prog X.w) A R (GY X S) n s₀ (.forLoop tg (.ref it) body [] X.env)
          ((do noteFrame x X.env; theTreesLotGoes x : Sem Unit).wrap (fun _ => .raise x) .raise id id)
          (.ret (fun r => ((match r with | .ok f => (.pure f : Sem Flow) | .error e => .raise e).onRaise (cameBack X.env)).wrap K J gd lv) none (gd false) (lv []) c p [] :: fs) s' := fun n s₀ x s' hx => by
        refine seg_wrap ?_
        rw [(gl _).over]
        refine wpAny_bind (wpAny_mono (hp x s' hx) (fun _ s'' hcb => wpAny_theTreesLotGoes ?_) fun y s'' hcb => ?_)
        · exact seg_leaf (.error x) (seg_cameBack gc k hcb)
        · exact seg_leaf (.error y) (seg_cameBack gc k hcb)
      refine seg_forLoop ?_
      rw [(gl _).over]
      obtain ⟨acc1, cc1, r1, I1⟩ := hI
      rcases turn i m ys σ H w with ⟨stop, qn⟩ | ⟨go, N, hN, step⟩
      · refine wpAny_mono (T.done X rfl rfl rfl hc i _ s σ H X.xe I1 (stat fr) st stop) (fun r s4 h4 => ?_) fun x s' hx => ee n s₀ x s' hx
        obtain ⟨hr, I4⟩ := h4
        subst hr
        refine seg_block0 ?_
        exact seg_leaf (.ok .next) (k.ok n ys s₀ s4 .next hn ⟨σ, H, ⟨acc1, cc1, r1, I4⟩, qn⟩)
      · refine wpAny_mono (T.item X rfl rfl rfl hc i _ s σ H X.xe I1 (stat fr) st go) (fun r s4 h4 => ?_) fun x s' hx => ee n s₀ x s' hx
        obtain ⟨u, hr, h4⟩ := h4
        subst hr
        refine wpAny_mono h4 (fun _ s5 h5 => ?_) fun x s' hx => ee n s₀ x s' hx
        obtain ⟨x, H5, I5, r5, y5, st5, fr5⟩ := h5
        have I5' := I5.pinned (stat fr5) (T.obj _ _ st5)
        refine wpAny_mono (hg.run _ s5 σ H5 x u _ I5' r5 (step x H5 y5)) (fun _ s6 h6 => ?_) fun x s' hx => ee n s₀ x s' hx
        obtain ⟨σ6, H6, I6, q6⟩ := h6
        have gl' : GC X S (ip ++ pinsAt fp s5.heap) A (.forLoop tg (.ref it) body [] X.env) (.ret (fun r => ((match r with | .ok f => (.pure f : Sem Flow) | .error e => .raise e).onRaise (cameBack X.env)).wrap K J gd lv) none (gd false) (lv []) c p [] :: fs) id :=
          ⟨gc.pn, fun q hq => (List.mem_append.mp hq).elim (fun z => gc.ip q z) fun z => fpS _ (of_pinsAt z).1, gc.apart, (gl _).over, (gl _).split, (gl _).guard, rfl⟩
        have again : ∀ {ys' : List V} {σ7 : L2.St} {H7 : Hp} {s7 : Shared} {n' : Nat} {s₀' : Shared}, n' + ys'.length = sizeLine → GI X S (ip ++ pinsAt fp s5.heap) ys' σ7 H7 s7 → N ys' σ7 H7 → Seg (model X.prog X.w) A R (GY X S) n' s₀' (.forLoop tg (.ref it) body [] X.env) (.pure (.again (.forLoop tg (.ref it) body [] X.env)))
            (.ret (fun r => ((match r with | .ok f => (.pure f : Sem Flow) | .error e => .raise e).onRaise (cameBack X.env)).wrap K J gd lv) none (gd false) (lv []) c p [] :: fs) s7 := by
          intro ys' σ7 H7 s7 n' s₀' hn' g7 n7
          obtain ⟨m', hm, w7⟩ := hN ys' σ7 H7 n7
          obtain ⟨acc7, cc7, r7, I7⟩ := g7
          have pin : ∀ b ∈ fp, ∀ o, s5.heap.get? b = some o → s7.heap.get? b = some o ∧ H7 b = none := fun b hb o e => by
            have := I7.pin (b, o) (List.mem_append_right _ (List.mem_cons_of_mem _ (List.mem_append_right _ (mem_pinsAt hb e))))
            exact ⟨this.1, this.2.1⟩
          refine seg_again rfl (ih m' hm (i + 1) n' ys' s₀' s7 σ7 H7 hn' w7 ⟨acc7, cc7, r7, I7.pins_of fun q hq => ?_⟩ (T.keep _ _ _ st5 fun b hb o e => (pin b hb o e).1) fun b hb => ?_)
          · rcases List.mem_cons.mp hq with hq | hq
            · rw [hq]; exact I7.pin _ (List.mem_append_right _ List.mem_cons_self)
            · exact I7.pin q (List.mem_append_right _ (List.mem_cons_of_mem _ (List.mem_append_left _ hq)))
          · obtain ⟨o, e, d⟩ := T.obj _ _ st5 b hb
            exact (pin b hb o e).2
        have unpin : ∀ {ys' : List V} {σ7 : L2.St} {H7 : Hp} {s7 : Shared}, GI X S (ip ++ pinsAt fp s5.heap) ys' σ7 H7 s7 → GI X S ip ys' σ7 H7 s7 := by
          rintro ys' σ7 H7 s7 ⟨acc7, cc7, r7, I7⟩
          refine ⟨acc7, cc7, r7, I7.pins_of fun q hq => ?_⟩
          rcases List.mem_cons.mp hq with hq | hq
          · rw [hq]; exact I7.pin _ (List.mem_append_right _ List.mem_cons_self)
          · exact I7.pin q (List.mem_append_right _ (List.mem_cons_of_mem _ (List.mem_append_left _ hq)))
        refine hb.run A S (ip ++ pinsAt fp s5.heap) R n ys s₀ _ _ _ _ id id s6 σ6 H6 { D with nx := N, ct := N, bk := D.nx } gl' hn ⟨fun n' ys' s₀' s7 f hn' hs => ?_, fun n' s₀' x s7 hx => ee n' s₀' x s7 hx⟩ ⟨acc1, cc1, r1, I6⟩ q6
        cases f with
        | next =>
          obtain ⟨σ7, H7, I7, n7⟩ := hs
          exact again hn' I7 n7
        | cont =>
          obtain ⟨σ7, H7, I7, n7⟩ := hs
          exact again hn' I7 n7
        | brk =>
          obtain ⟨σ7, H7, I7, q7⟩ := hs
          exact seg_leaf (.ok .next) (k.ok n' ys' s₀' s7 .next hn' ⟨σ7, H7, unpin I7, q7⟩)
        | ret v =>
          obtain ⟨y, σ7, H7, I7, r7, q7⟩ := hs
          exact seg_leaf (.ok (.ret v)) (k.ok n' ys' s₀' s7 (.ret v) hn' ⟨y, σ7, H7, unpin I7, r7, q7⟩)
  exact loop m0 0 n ys s₀ s2 σ H2 hn w0 ⟨acc, cc, r, I2⟩ st2 fun b hb => (f2 b hb).1
end
end S
namespace S
open PySem PySem.Spec PyProof.Rows L2 GenW
/-- named rests of a generator's body -/
def gstop (t : TGn) : TGn := fun D ys σ H => Stop (fun _ σ H => t D ys σ H) { nx := fun _ _ => True, rt := fun _ _ => True } σ H
theorem gss_stop {X : Cx} {st : List Stmt} {t : TGn} (h : GSs X st t) : GSs X st (gstop t) := ⟨fun A S ip R n ys s₀ c fs K J gd lv s σ H D g hn k hI ht => h.run A S ip R n ys s₀ c fs K J gd lv s σ H D g hn k hI ht.go⟩
theorem gss_one {X : Cx} {st : Stmt} {t : TGn} (h : GS X st t) : GSs X [st] t := by
  have h2 := gss_cons h (gss_nil (X := X))
  exact ⟨fun A S ip R n ys s₀ c fs K J gd lv s σ H D g hn k hI ht => h2.run A S ip R n ys s₀ c fs K J gd lv s σ H D g hn k hI ht⟩
def tGIf (c : TT) (t u : TGn) : TGn := fun D ys σ H => c σ H fun b H1 => bIf b (t D ys σ H1) (u D ys σ H1)
theorem gs_if {X : Cx} {test : Expr} {body orelse : List Stmt} {pos : Pos} {c : TT} {t u : TGn} (hc : PT X test c) (ha : GSs X body t) (hb : GSs X orelse u) : GS X (.If test body orelse pos) (tGIf c t u) := by
  refine ⟨fun A S ip R n ys s₀ cd fs K J gd lv s σ H D g hn k hI ht => ?_⟩
  obtain ⟨acc, cc, r, I⟩ := hI
  show Seg _ _ _ _ _ _ _ ((do standAt pos; if ← isTrue test X.env (eval test X.env) then execs body X.env else execs orelse X.env : Sem Flow).wrap K J gd lv) _ _
  refine seg_bind_wrap (wpAny_standAt ?_)
  refine seg_bind_wrap ?_
  rw [g.over]
  refine wpAny_mono (hc.run _ s σ H _ I ht) (fun b s' hb' => ?_) fun x s' hx => k.exc n s₀ x s' hx
  obtain ⟨H2, I2, q2⟩ := hb'
  cases b with
  | true =>
    rw [if_pos rfl]
    exact ha.run A S ip R n ys s₀ cd fs K J gd lv s' σ H2 D g hn k ⟨acc, cc, r, I2⟩ q2
  | false =>
    rw [if_neg Bool.false_ne_true]
    exact hb.run A S ip R n ys s₀ cd fs K J gd lv s' σ H2 D g hn k ⟨acc, cc, r, I2⟩ q2
/-- what a def that hands out may let out: no StopIteration -/
def EN (K : Frag) (E : XK) : XK := fun cls d H => E cls d H ∧ PySem.W.subIn K cls (.type "StopIteration") = some false
/-- a generator def at an address -/
def GFR (P : Program) (w : World) (K : Frag) (mg : Str → Option Value) (base : Heap) (k : Nat) (f : Addr) (sp : SpG) : Prop :=
  ∀ (A : Around) (outer : List Env) (s : Shared) (H : Hp) (us : List Value) (vs : List V) (Q : List V → Hp → Prop) (E : XK), Room k A → Env0 P w K mg base A outer s H → Vals vs us → sp vs H Q E →
    codeAny (model P w) A (.call (.ref f) ⟨us, []⟩) (fun r s' => match r with | .ok (.ret u) => GMade P w k outer H s [] Q E u s' | _ => False) s
structure GFK (P : Program) (w : World) (K : Frag) (mg : Str → Option Value) (base : Heap) (k : Nat) (f : Addr) (n : Nat) (ks : List Str) (sp : SpG) (gV : List V → List V → List V) : Prop where
  ex : ∃ (fd : FuncData) (ps : List Str) (g : List Value → List Value → List Value), GFn P w K mg base k f fd ps sp ∧ KBn K fd ps n ks g gV
def spDG (sp : SpG) (dvs : List V) : SpG := fun vs H Q E => sp (vs ++ dvs) H Q E
abbrev cxG (P : Program) (w : World) (K : Frag) (mg : Str → Option Value) (base : Heap) (N : List Str) (qual : Str) (scope : Scope) (f : Addr) (cd : Value) (A : Around) (outer : List Env) (s : Shared) (H : Hp) (E : XK) (pn : List (Addr × Obj)) : Cx := gcxOf P w K mg base N qual scope f cd A outer s H E pn
section
variable {P : Program} {w : World} {K : Frag} {mg : Str → Option Value} {base : Heap} {x qual : Str} {params : Arguments} {body : List Stmt} {scope : Scope} {dvs : List V} {kws : List (Str × V)} {f : Addr} {fd : FuncData}
theorem FunD.gok {N ps : List Str} {k : Nat} {sp : SpG} (F : FunD K x qual params body scope dvs kws f fd) (S : GScope N ps scope) (len : ∀ vs H Q E, sp vs H Q E → vs.length = ps.length)
    {t : XK → TGn} (hbody : ∀ (cdv : Value) (A : Around) (outer : List Env) (s : Shared) (H : Hp) (E : XK) (pn : List (Addr × Obj)), Room k (A.deeper (envOfC qual scope s.heap.objs.size f cdv)) → GSs (cxG P w K mg base N qual scope f cdv A outer s H E pn) body (t E))
    (pure : ∀ vs H Q E, sp vs H Q E → t E { nx := fun ys _ H' => Q ys H', rt := fun ys v H' => v = .non ∧ Q ys H' } [] (start N vs) H) : GFn P w K mg base (k + 1) f fd ps sp := by
  obtain ⟨oc, od, dV, kV, doc, pm, an, cdv, ct, osl, rfl, lk, hcd, _, _⟩ := F.ex
  exact gfn_of lk hcd S len fun A outer s H vs Q E pn hr hsp => ⟨t E, hbody cdv A outer s H E pn hr, pure vs H Q E hsp⟩
theorem GFn.raw {k : Nat} {sp : SpG} {ps : List Str} {ds : List Value} {ex : List V} (F : GFn P w K mg base k f fd ps sp) (hb : Binds K fd ps ds) (hd : Vals ex ds) : GFR P w K mg base k f (spDG sp ex) := by
  intro A outer s H us vs Q E hr e0 r h
  have r2 : Vals (vs ++ ex) (us ++ ds) := r.append hd
  have hl2 : (us ++ ds).length = ps.length := by rw [← r2.length]; exact F.len _ _ _ _ h
  exact F.run A outer s H ⟨us, []⟩ (us ++ ds) (vs ++ ex) Q E hr e0 (hb s us (e0.mod.kin.keeps fun b o e => (e0.bs b o e).1) hl2) r2 h
theorem mk_gfn {N ps : List Str} {k : Nat} {sp : SpG} {ex : List V} (F : FunD K x qual params body scope dvs kws f fd) (S : GScope N ps scope) (len : ∀ vs H Q E, sp vs H Q E → vs.length = ps.length) (hb : ∃ ds, Vals ex ds ∧ Binds K fd ps ds)
    {t : XK → TGn} (hbody : ∀ (cdv : Value) (A : Around) (outer : List Env) (s : Shared) (H : Hp) (E : XK) (pn : List (Addr × Obj)), Room k (A.deeper (envOfC qual scope s.heap.objs.size f cdv)) → GSs (cxG P w K mg base N qual scope f cdv A outer s H E pn) body (t E))
    (pure : ∀ vs H Q E, sp vs H Q E → t E { nx := fun ys _ H' => Q ys H', rt := fun ys v H' => v = .non ∧ Q ys H' } [] (start N vs) H) : GFR P w K mg base (k + 1) f (spDG sp ex) := by
  obtain ⟨ds, hv, hb⟩ := hb
  exact GFn.raw (FunD.gok (P := P) (w := w) (mg := mg) (base := base) F S len hbody pure) hb hv
theorem spDG_nil {k : Nat} {sp : SpG} (F : GFR P w K mg base k f (spDG sp [])) : GFR P w K mg base k f sp := fun A outer s H us vs Q E hr e0 r h => F A outer s H us vs Q E hr e0 r (by show sp (vs ++ []) H Q E; rw [List.append_nil]; exact h)
theorem mk_gfnK {N ps ks : List Str} {k n : Nat} {sp : SpG} {gV : List V → List V → List V} (F : FunD K x qual params body scope dvs kws f fd) (S : GScope N ps scope) (len : ∀ vs H Q E, sp vs H Q E → vs.length = ps.length) (hb : ∃ g, KBn K fd ps n ks g gV)
    {t : XK → TGn} (hbody : ∀ (cdv : Value) (A : Around) (outer : List Env) (s : Shared) (H : Hp) (E : XK) (pn : List (Addr × Obj)), Room k (A.deeper (envOfC qual scope s.heap.objs.size f cdv)) → GSs (cxG P w K mg base N qual scope f cdv A outer s H E pn) body (t E))
    (pure : ∀ vs H Q E, sp vs H Q E → t E { nx := fun ys _ H' => Q ys H', rt := fun ys v H' => v = .non ∧ Q ys H' } [] (start N vs) H) : GFK P w K mg base (k + 1) f n ks sp gV := by
  obtain ⟨g, hb⟩ := hb
  exact ⟨fd, ps, g, FunD.gok (P := P) (w := w) (mg := mg) (base := base) F S len hbody pure, hb⟩
end
theorem passG {P : Program} {w : World} {K : Frag} {mg : Str → Option Value} {base : Heap} {N : List Str} {qual : Str} {scope : Scope} {f : Addr} {cd : Value} {A : Around} {outer : List Env} {s : Shared} {H : Hp} {E : XK} {pn : List (Addr × Obj)} :
    ∀ σ, PassesAt (L2.CX P w) (cxG P w K mg base N qual scope f cd A outer s H E pn) σ (EW E σ) := fun σ => passAt takes_gcx σ
theorem ownG {P : Program} {w : World} {K : Frag} {mg : Str → Option Value} {base : Heap} {N : List Str} {qual : Str} {scope : Scope} {f : Addr} {cd : Value} {A : Around} {outer : List Env} {s : Shared} {H : Hp} {E : XK} {pn : List (Addr × Obj)} :
    PassesOwn (model P w) (cxG P w K mg base N qual scope f cd A outer s H E pn).A (cxG P w K mg base N qual scope f cd A outer s H E pn).env (cxG P w K mg base N qual scope f cd A outer s H E pn).xe := owns_gcx
/-! ### generators as values -/
abbrev TGenE := XK → TGen
section
variable {X : Cx} {k n : Nat} {f g : Addr} {sp : SpG} {x c m : Str} {p pos pos' apos : Pos} {e o : Expr} {es : List Expr} {t tk : TA} {ta : TE} {gV : List V → List V → List V} {ks : List Str} {kws : List Keyword}
structure PGenE (X : Cx) (k : Nat) (e : Expr) (tg : TGenE) : Prop where
  run : ∀ E, PGen X k e (tg E) E
theorem run_gfr {pins : List (Addr × Obj)} {σ : L2.St} {H : Hp} {s : Shared} {us : List Value} {vs : List V} {cont : List V → Hp → Prop} {E : XK} {E1 : Value → Shared → Prop} (F : GFR X.prog X.w X.K X.mg X.base k f sp) (hr : Room k X.A)
    (I : Inv X pins σ H s) (r : Vals vs us) (h : sp vs H cont E) :
    wpAny (model X.prog X.w) X.A (call (.ref f) us) (fun u s' => ∃ H1 sc ex, Inv X pins σ H1 sc ∧ ExOk X pins ex ∧ GMade X.prog X.w k X.stack H1 sc ex cont E u s') E1 s := by
  refine wpAny_call (codeAny_mono (F X.A X.stack s H us vs cont E hr I.env0 r h) fun r s' hq => ?_)
  cases r with
  | error e => exact False.elim hq
  | ok fl =>
    cases fl with
    | ret u => exact ⟨H, s, [], I, .nil, hq⟩
    | next => exact False.elim hq
    | brk => exact False.elim hq
    | cont => exact False.elim hq
/-- o.m(), o an instance with slots -/
def tMethGS (K : Frag) (c : Str) (sp : SpG) (ta : TE) : TGenE := fun E σ H cont => ta σ H fun x H1 => match x with
  | .ref a => IsO K H1 c a (sp [.ref a] H1 cont E)
  | _ => False
theorem pgen_methS0 {pl : Sem Bool} (hc : SlX.SCls X.K (He.ga X.K c)) (hm : Meth X.K (He.ga X.K c) m g) (F : GFR X.prog X.w X.K X.mg X.base k g sp) (hr : Room k X.A) (he : PE X o ta)
    (ht : eval (.Call (.Attribute o m apos) [] [] pos) X.env = (do
      let ov ← eval o X.env
      standAt apos.atName
      let (f, first) ← holding [ov] (getMethod ov m pl)
      callWith pos f first (backTo pos (starEach [] X.env)) (backToKw pos (keywordEach [] X.env))) := by rfl) :
    PGenE X k (.Call (.Attribute o m apos) [] [] pos) (tMethGS X.K c sp ta) := by
  refine ⟨fun E => ⟨fun pins s σ H cont I h => ?_⟩⟩
  refine PySem.W.methodCall_KW (pl := pl) (thn (he.run pins s σ H _ I h) fun u s1 ⟨x, H1, I1, rx, q⟩ => ?_) ht
  cases x <;> try exact q.elim
  cases rx
  obtain ⟨⟨dx, vs, hsl⟩, q⟩ := q
  refine SlX.getmethsl_ok I1 hsl hc hm ?_
  exact PySem.W.callWith_K0 (first := [.ref _]) I1.kIn hm.kp (run_gfr (us := [.ref _]) (vs := [.ref _]) F hr I1 (.cons rfl .nil) q)
/-- f(e, ..) -/
def tCallGE (sp : SpG) (t : TA) : TGenE := fun E σ H cont => t σ H fun vs H1 => sp vs H1 cont E
theorem pgen_callR (F : GFR X.prog X.w X.K X.mg X.base k f sp) (hr : Room k X.A) (hm : X.mg x = some (.ref f)) (hk : PySem.W.keepIn X.K (.ref f) = true) (ha : PA X (e :: es) t) (hg : Gl X x := by rfl) (hdb : (x == ("__debug__" : Str)) = false := by decide)
    (he : starEach (e :: es) X.env = (false, eval e X.env) :: starEach es X.env := by rfl) (hpl : (backTo pos' (starEach es X.env)).any (·.1) = false := by rfl) :
    PGenE X k (.Call (.Name x p) (e :: es) [] pos') (tCallGE sp t) := by
  refine ⟨fun E => ⟨fun pins s σ H cont I h => ?_⟩⟩
  refine wpAny_Call_Name_kw (ld_glob I hg hm ?_ hdb)
  refine PySem.W.callWith_K (h₀ := X.base) I.ok.mod.kin hk (thn (ha.run pos' pins s σ H _ I h) fun us s1 ⟨vs, H1, I1, r, q⟩ => ⟨I1.kIn, ?_⟩) he hpl
  exact run_gfr F hr I1 r q
/-- list(g), what it may raise wished for at the caller's slots -/
def tListGE (K : Frag) (tg : TGenE) (E : L2.St → XK) : TE := fun σ H Q => tg (EN K (E σ)) σ H fun out H2 => ∀ p, H2 p = none → Q (.ref p) (upd H2 p (.lst out))
theorem pe_listGE {nm : Str} {tg : TGenE} {E : L2.St → XK} (h : PGenE X k e tg) (hx : ∀ σ, PassesAt (L2.CX X.prog X.w) X σ (E σ)) (hr : Room (k + 3) X.A) (hmg : X.mg nm = none) (hv : bootBuiltins nm = some (.type "list")) (hg : Gl X nm := by rfl) (hnm : nm ≠ "__name__" := by decide) (hdb : (nm == ("__debug__" : Str)) = false := by decide)
    (he : starEach [e] X.env = (false, eval e X.env) :: starEach [] X.env := by rfl) : PE X (.Call (.Name nm p) [e] [] pos) (tListGE X.K tg E) := by
  refine ⟨fun pins s σ H Q I hq => ?_⟩
  refine wpAny_Call_Name_kw (ld_blt I hg hmg hv ?_ hnm hdb)
  refine PyProof.Rows.callWith_type1 ?_ he rfl
  rw [he]
  show wpAny _ _ (spliced ((false, eval e X.env) :: backTo pos (starEach [] X.env))) _ _ s
  refine Calls.spliced_cons (thn ((h.run (EN X.K (E σ))).run pins s σ H _ I hq) fun u s1 ⟨H1, sc, ex, I1, hex, hG⟩ => ?_)
  refine Calls.spliced_nil ?_
  have hsz : sc.heap.objs.size ≤ s1.heap.objs.size := by
    obtain ⟨a, g, c, _, h1, h2, _⟩ := hG
    exact Nat.le_trans h1 (Nat.le_of_lt h2)
  refine call_list_new hr I1.ok.frames hG (fun S s' acc c H' ys q0 q1 q2 hl q3 q4 q5 q6 q7 q8 => ?_) fun e s' g hc => ?_
  · exact ⟨.ref S, upd H' S (.lst ys), I1.drained (Nat.le_trans hsz q0) hl q1 q2 hex q3 q4 q5 q6 q7, rfl, q8 S q7⟩
  · have kin : X.K.In s'.heap := by
      obtain ⟨a, B, H', cls, d, _, fl, _, ub, _⟩ := id hc
      refine I1.ok.mod.kin.keeps fun b o eb => fl.1 b o (ub.keep b o (I1.bs b o eb).1 (I1.bs b o eb).2 fun hm => ?_)
      rcases List.mem_cons.mp (I1.stkSub b hm) with z | z
      · have h1 := Heap.lt_size eb
        have h2 := Nat.le_trans I1.ok.bsz I1.ok.above
        rw [z] at h1
        exact absurd (Nat.lt_of_lt_of_le h1 h2) (Nat.lt_irrefl _)
      · exact I1.ok.nofr eb z
    refine ⟨notStop_of (fun _ _ _ z => z.2) kin hc, hx σ pins H1 sc e _ I1 ?_⟩
    obtain ⟨a, B, H', cls, d, z1, fl, z2, ub, z3, z4, z5, z6⟩ := hc
    exact ⟨a, B, H', cls, d, z1, fl, z2, ub, z3, z4, allBare_setGen z5 rfl, z6.1⟩
end
end S
namespace S
open PySem PySem.Spec PyProof.Rows L2
def GLoopR (D : GEnds) (ys : List V) (g : TG) (tb : TGn) (σ : L2.St) : It → Hp → Prop := fun J H1 => ∃ W : Nat → Nat → List V → L2.St → Hp → Prop, (∃ m, W 0 m ys σ H1) ∧ ∀ i m ys σ H, W i m ys σ H →
  (J.stop i H ∧ D.nx ys σ H) ∨ (J.go i H ∧ ∃ N : List V → L2.St → Hp → Prop, (∀ ys' σ' H', N ys' σ' H' → ∃ m', m' < m ∧ W (i + 1) m' ys' σ' H') ∧ ∀ x H', J.yld i H x H' → g x σ H' fun σ2 H2 => tb { D with nx := N, ct := N, bk := D.nx } ys σ2 H2)
def dGFor (wi : TI) (g : TG) (tb : TGn) : TGn := fun D ys σ H => wi σ H (GLoopR D ys g tb σ)
theorem gs_dfor {X : Cx} {tg iter : Expr} {body : List Stmt} {wi : TI} {g : TG} {tb : TGn} {pos : Pos} (hp : PassesOwn (model X.prog X.w) X.A X.env X.xe) (hc : X.calm = true) (hi : PI X tg iter wi) (hg : PG X tg g) (hb : GSs X body tb)
    (hs : ∀ x, foldedSetIterable iter X.env x = pure x := by intro _; rfl) : GS X (.For tg iter body [] pos) (dGFor wi g tb) := gs_for hp hc hi hg hb hs
section
variable {K : Frag} {a b : Addr} {xs zs : List V} {g : TG} {tb : TGn} {D : GEnds} {ys : List V} {σ : L2.St} {H : Hp}
theorem gfor_list (Pv : Nat → List V → L2.St → Hp → Prop) (h0 : Pv 0 ys σ H) (hl : ∀ i ys σ H, i ≤ xs.length → Pv i ys σ H → SqL K H a xs)
    (hs : ∀ i x ys σ H, xs[i]? = some x → Pv i ys σ H → g x σ H fun σ2 H2 => tb { D with nx := Pv (i + 1), ct := Pv (i + 1), bk := D.nx } ys σ2 H2) (hd : ∀ ys σ H, Pv xs.length ys σ H → D.nx ys σ H) : GLoopR D ys g tb σ (Itl K a) H := by
  refine ⟨fun i m ys σ H => m = xs.length - i ∧ i ≤ xs.length ∧ Pv i ys σ H, ⟨xs.length, by simp, Nat.zero_le _, h0⟩, ?_⟩
  rintro i m ys σ H ⟨rfl, hi, p⟩
  have q := hl i ys σ H hi p
  by_cases hlt : i < xs.length
  · refine .inr ⟨⟨xs, xs[i], q, by simp [hlt]⟩, Pv (i + 1), fun ys' σ' H' p' => ⟨xs.length - (i + 1), by omega, rfl, hlt, p'⟩, fun x H' y => ?_⟩
    obtain ⟨e, y⟩ := y
    subst e
    exact hs i x ys σ _ (y xs q) p
  · have e : i = xs.length := by omega
    subst e
    exact .inl ⟨⟨xs, q, Nat.le_refl _⟩, hd ys σ H p⟩
theorem gfor_tup (Pv : Nat → List V → L2.St → Hp → Prop) (h0 : Pv 0 ys σ H) (hl : ∀ i ys σ H, i ≤ xs.length → Pv i ys σ H → SqT K H a xs)
    (hs : ∀ i x ys σ H, xs[i]? = some x → Pv i ys σ H → g x σ H fun σ2 H2 => tb { D with nx := Pv (i + 1), ct := Pv (i + 1), bk := D.nx } ys σ2 H2) (hd : ∀ ys σ H, Pv xs.length ys σ H → D.nx ys σ H) : GLoopR D ys g tb σ (Itt K a) H := by
  refine ⟨fun i m ys σ H => m = xs.length - i ∧ i ≤ xs.length ∧ Pv i ys σ H, ⟨xs.length, by simp, Nat.zero_le _, h0⟩, ?_⟩
  rintro i m ys σ H ⟨rfl, hi, p⟩
  have q := hl i ys σ H hi p
  by_cases hlt : i < xs.length
  · refine .inr ⟨⟨xs, xs[i], q, by simp [hlt]⟩, Pv (i + 1), fun ys' σ' H' p' => ⟨xs.length - (i + 1), by omega, rfl, hlt, p'⟩, fun x H' y => ?_⟩
    obtain ⟨e, y⟩ := y
    subst e
    exact hs i x ys σ _ (y xs q) p
  · have e : i = xs.length := by omega
    subst e
    exact .inl ⟨⟨xs, q, Nat.le_refl _⟩, hd ys σ H p⟩
theorem gfor_seq (Pv : Nat → List V → L2.St → Hp → Prop) (hx : SqA K H a xs) (h0 : Pv 0 ys σ H) (hl : ∀ i ys σ H', i ≤ xs.length → Pv i ys σ H' → Stay K a H H')
    (hs : ∀ i x ys σ H, xs[i]? = some x → Pv i ys σ H → g x σ H fun σ2 H2 => tb { D with nx := Pv (i + 1), ct := Pv (i + 1), bk := D.nx } ys σ2 H2) (hd : ∀ ys σ H, Pv xs.length ys σ H → D.nx ys σ H) : Walk K H a (GLoopR D ys g tb σ) := by
  rcases hx with hx | hx
  · exact ⟨.inl ⟨⟨xs, hx⟩, gfor_list Pv h0 (fun i ys σ H' hi q => (hl i ys σ H' hi q xs).1 hx) hs hd⟩⟩
  · exact ⟨.inr ⟨⟨xs, hx⟩, gfor_tup Pv h0 (fun i ys σ H' hi q => (hl i ys σ H' hi q xs).2 hx) hs hd⟩⟩
/-- zip of two lists of one length -/
theorem gfor_zip (hl : xs.length = zs.length) (Pv : Nat → List V → L2.St → Hp → Prop) (h0 : Pv 0 ys σ H) (hq : ∀ i ys σ H, Pv i ys σ H → SqL K H a xs ∧ SqL K H b zs)
    (hs : ∀ (i : Nat) (x y : V) (T : Addr) (ys : List V) (σ : L2.St) (H : Hp), xs[i]? = some x → zs[i]? = some y → Pv i ys σ H → H T = none → g (.ref T) σ (upd H T (.tup [x, y])) fun σ2 H2 => tb { D with nx := Pv (i + 1), ct := Pv (i + 1), bk := D.nx } ys σ2 H2)
    (hd : ∀ ys σ H, Pv xs.length ys σ H → D.nx ys σ H) : GLoopR D ys g tb σ (Itz K a b) H := by
  refine ⟨fun i m ys σ H => m = xs.length - i ∧ i ≤ xs.length ∧ Pv i ys σ H, ⟨xs.length, rfl, Nat.zero_le _, h0⟩, ?_⟩
  rintro i m ys σ H ⟨rfl, hi, p⟩
  obtain ⟨qx, qy⟩ := hq i ys σ H p
  by_cases hlt : i < xs.length
  · have hx : xs[i]? = some xs[i] := List.getElem?_eq_getElem hlt
    have hlt2 : i < zs.length := by omega
    have hy : zs[i]? = some zs[i] := List.getElem?_eq_getElem hlt2
    refine .inr ⟨⟨xs, zs, _, _, qx, qy, hx, hy⟩, Pv (i + 1), fun ys' σ' H' p' => ⟨xs.length - (i + 1), by omega, rfl, hlt, p'⟩, fun v H' y => ?_⟩
    obtain ⟨T, x', y', rfl, hT, rfl, f1, f2⟩ := y
    exact hs i x' y' T ys σ H (f1 xs qx) (f2 zs qy) p hT
  · have e : i = xs.length := by omega
    subst e
    exact .inl ⟨⟨xs, zs, qx, qy, Or.inl (Nat.le_refl _)⟩, hd ys σ H p⟩
/-- one for zips outside of generators -/
theorem for_zip {tb : TS} {D : L2.Ends} (hl : xs.length = zs.length) (Pv : Nat → L2.St → Hp → Prop) (h0 : Pv 0 σ H) (hq : ∀ i σ H, Pv i σ H → SqL K H a xs ∧ SqL K H b zs)
    (hs : ∀ (i : Nat) (x y : V) (T : Addr) (σ : L2.St) (H : Hp), xs[i]? = some x → zs[i]? = some y → Pv i σ H → H T = none → g (.ref T) σ (upd H T (.tup [x, y])) fun σ2 H2 => tb { D with nx := Pv (i + 1), ct := Pv (i + 1), bk := D.nx } σ2 H2) (hd : ∀ σ H, Pv xs.length σ H → D.nx σ H) : LoopR D g tb σ (Itz K a b) H :=
  RZ.for_zipL hl Pv h0 hq hs hd
end
/-! ### a < b < c < d as a test -/
def dChain3T (r r' r'' : R2) (ta tb tc td : TE) : TT := fun σ H Q => ta σ H fun x H1 => tb σ H1 fun y H2 => r x y H2 (isB fun k H3 => bIf k (tc σ H3 fun z H4 => r' y z H4 (isB fun k2 H5 => bIf k2 (td σ H5 fun w' H6 => r'' z w' H6 (isB Q)) (Q false H5))) (Q false H3))
theorem pt_chain3 {X : Cx} {op op' op'' : CmpOp} {a b c d : Expr} {r r' r'' : R2} {ta tb tc td : TE} {pos : Pos} (ho : OpR X (compareOp op) r) (ho' : OpR X (compareOp op') r') (ho'' : OpR X (compareOp op'') r'') (ha : PE X a ta) (hb : PE X b tb) (hc : PE X c tc) (hd : PE X d td)
    (hm : lastMarks [op, op', op''] [b, c, d] = false := by with_unfolding_all rfl) : PT X (.Compare a [op, op', op''] [b, c, d] pos) (dChain3T r r' r'' ta tb tc td) := by
  refine ⟨fun pins s σ H Q I h => ?_⟩
  refine isTrue_chain (thn (ha.run pins s σ H _ I h) fun v s1 ⟨x, H1, I1, r1, q1⟩ => test_link (thn (hb.run pins s1 σ H1 _ I1 q1) fun u s2 ⟨y, H2, I2, r2, q2⟩ =>
    thn (ho pins s2 σ H2 x y v u _ I2 r1 r2 q2) fun d s3 ⟨z, H3, I3, r3, q3⟩ => ?_)) hm
  obtain ⟨k, e, q3⟩ := isB_ex q3
  subst e
  cases r3
  refine wpAny_truthy_bool ?_
  cases k with
  | false => exact ite_ff ⟨H3, I3, q3⟩
  | true =>
    refine ite_tt (test_link (thn (hc.run pins s3 σ H3 _ I3 q3) fun w' s4 ⟨z', H4, I4, r4, q4⟩ => thn (ho' pins s4 σ H4 y z' u w' _ I4 r2 r4 q4) fun d' s5 ⟨z2, H5, I5, r5, q5⟩ => ?_))
    obtain ⟨k2, e2, q5⟩ := isB_ex q5
    subst e2
    cases r5
    refine wpAny_truthy_bool ?_
    cases k2 with
    | false => exact ite_ff ⟨H5, I5, q5⟩
    | true =>
      refine ite_tt (test_last (thn (hd.run pins s5 σ H5 _ I5 q5) fun w2 s6 ⟨z6, H6, I6, r6, q6⟩ => thn (ho'' pins s6 σ H6 z' z6 w' w2 _ I6 r4 r6 q6) fun d2 s7 ⟨z7, H7, I7, r7, q7⟩ => ?_))
      obtain ⟨k3, e3, q7⟩ := isB_ex q7
      subst e3
      cases r7
      exact wpAny_truthy_bool ⟨H7, I7, q7⟩
end S
namespace S
open PySem PySem.Spec PyProof.Rows L2
set_option maxRecDepth 8000 in
theorem extend_tupA (l : Addr) (items : Array Value) (n : Nat) (b : Addr) (od : Option Addr) (osl : Array (Option Value)) (items2 : Array Value) (n2 : Nat) (hs0 : ¬(!items.isEmpty && Builtin.List.listTooLong (items.size + items2.size)) = true) (hs1 : items.size ≤ sizeLine) (hs2 : items.size + items2.size ≤ sizeLine + 1) :
    Meets (Builtin.«list.extend» ⟨[.ref l, .ref b], []⟩) (fun _ R s => s.heap.get? l = some { cls := .type "list", dict := none, data := .seq items n, slots := #[] } ∧ s.heap.get? b = some { cls := .type "tuple", dict := od, data := .seq items2 n2, slots := osl } ∧ R (.ok (.ret Value.none)) { s with heap := s.heap.update l (Obj.mapSeq fun x => x ++ items2), toks := s.toks }) :=
  .of_wp fun prog w A R s h => by
    obtain ⟨hp, g, d, tk, os⟩ := s; obtain ⟨hl, hb, h⟩ := h; have f1 := AutoSeq1.idx_int; have f2 := AutoSeq1.sub_tuple_tuple; have f3 := AutoSeq1.sub_list_list; have f4 := AutoSeq1.sub_tuple_list; have f5 := AutoSeq1.sub_list_tuple;
    have hz' : (items ++ items2).size ≤ sizeLine + 1 := by rw [Array.size_append]; exact hs2
    wp_walk using (wpAny_updateSeq hl rfl (hz := hs1) (_hz' := hz')), AutoSeq1.wpAny_loadPart' hl, AutoSeq1.wpAny_loadPart' hb; exact ⟨_, rfl, h⟩
def rExtendT (K : Frag) : V → List V → Hp → VK → Prop := fun x vs H Q => ∃ l b xs zs, x = .ref l ∧ vs = [.ref b] ∧ H l = some (.lst xs) ∧ SqT K H b zs ∧ xs.length + zs.length ≤ sizeLine ∧ Q .non (upd H l (.lst (xs ++ zs)))
theorem mt_extendT {X : Cx} : MtR X "list.extend" (rExtendT X.K) := by
  intro pins s σ H x vs v us Q I rx rv h
  obtain ⟨l, b, xs, zs, rfl, rfl, hH, hB, hz, q⟩ := h
  cases rx
  obtain ⟨u, rfl, ru⟩ := rv.one
  cases ru
  obtain ⟨z, its, n, r, hl, e⟩ := I.lstM hH
  obtain ⟨its2, r2, ⟨o2, e2, hc2, n2, hd2⟩, z2⟩ := I.tuple hB
  obtain ⟨oc, od, odt, osl⟩ := o2
  simp only at hc2 hd2
  subst hc2; subst hd2
  have l1 := r.length
  have l2 := r2.length
  have hsz : its.toArray.size + its2.toArray.size ≤ sizeLine := by rw [List.size_toArray, List.size_toArray]; omega
  have hlong : ¬ (!its.toArray.isEmpty && Builtin.List.listTooLong (its.toArray.size + its2.toArray.size)) = true := by
    rw [notLongL hsz, Bool.and_false]
    exact Bool.false_ne_true
  refine call_meets F.slot_list_extend ⟨_, e, rfl⟩ F.entry_list_extend (F.args_list_extend_2 _ _)
    (extend_tupA l its.toArray n b od osl its2.toArray n2 hlong (by rw [List.size_toArray]; omega) (by omega)) ⟨e, e2, ?_⟩
  refine ⟨.non, _, I.lset (its' := its ++ its2) hH e (by simp) (r.append r2) ?_, rfl, q⟩
  rw [List.length_append]
  omega
/-- the sequence at b is put behind -/
structure ExtA (K : Frag) (H : Hp) (b : Addr) (n : Nat) (k : List V → Prop) : Prop where
  ex : ∃ zs, (H b = some (.lst zs) ∨ SqT K H b zs) ∧ n + zs.length ≤ sizeLine ∧ k zs
theorem ExtA.l {K : Frag} {H : Hp} {b : Addr} {n : Nat} {k : List V → Prop} {zs : List V} (h : H b = some (.lst zs)) (hz : n + zs.length ≤ sizeLine) (q : k zs) : ExtA K H b n k := ⟨zs, .inl h, hz, q⟩
theorem ExtA.t {K : Frag} {H : Hp} {b : Addr} {n : Nat} {k : List V → Prop} {zs : List V} (h : SqT K H b zs) (hz : n + zs.length ≤ sizeLine) (q : k zs) : ExtA K H b n k := ⟨zs, .inr h, hz, q⟩
def mExtA (K : Frag) : M2 := mL fun xs vs H k => match vs with
  | [.ref b] => ExtA K H b xs.length fun zs => k .non (xs ++ zs)
  | _ => False
theorem m_extA {X : Cx} : MtR X "list.extend" (mExtA X.K) := by
  intro pins s σ H x vs v us Q I rx rv q
  cases x <;> try exact q.elim
  match vs, q with
  | [.ref b], ⟨⟨xs, h, ⟨zs, h2, hz, q⟩⟩⟩ =>
    rcases h2 with h2 | h2
    · exact (MtR.of mt_extend fun _ _ _ _ q => q) pins s σ H _ _ v us Q I rx rv ⟨_, b, xs, zs, rfl, rfl, h, h2, hz, q⟩
    · exact mt_extendT pins s σ H _ _ v us Q I rx rv ⟨_, b, xs, zs, rfl, rfl, h, h2, hz, q⟩
/-! ### set(a list of numbers) -/
section
variable {P : Program} {w : World} {A : Around} {E : Value → Shared → Prop} {s : Shared}
/-- what the set holds after i items -/
def GotI (ns : List Int) (i : Nat) (S : Int → Bool) (n : Nat) : Prop := (∀ k, S k = true ↔ k ∈ ns.take i) ∧ n ≤ i
theorem gotI_succ {ns : List Int} {i : Nat} {S : Int → Bool} {n : Nat} {k : Int} (g : GotI ns i S n) (h : ns[i]? = some k) : GotI ns (i + 1) (fun j => S j || decide (j = k)) (if S k = true then n else n + 1) := by
  refine ⟨fun j => ?_, ?_⟩
  · rw [List.take_succ, h, List.mem_append, ← g.1 j, Bool.or_eq_true, decide_eq_true_eq]
    show _ ↔ _ ∨ j ∈ [k]
    rw [List.mem_singleton]
  · have := g.2
    split <;> omega
theorem set_update_ints {I : Addr} {fp wr : List Addr} {G : Array GenState → Array GenState → Prop} {n : Nat} {Pv : Nat → Value → Prop} {St : Nat → Shared → Prop} {R : Result → Shared → Prop}
    (W : WalksS P w A.in1 I fp wr G n Pv St) (S : Addr) (hSf : S ∉ fp) (ns : List Int) (hn : n = ns.length) (hfew : ns.length + 1 < scanBound) (hval : ∀ i v, Pv i v → ∃ k t, ns[i]? = some k ∧ v = .int k t)
    (h0 : Heap) (hS0 : h0.get? S = none) (hw0 : ∀ b ∈ wr, h0.get? b = none) :
    ∀ (k i : Nat) (s : Shared), n - i = k → i ≤ n → St i s → (∀ b o, h0.get? b = some o → s.heap.get? b = some o) → (∃ T m, SetR w s.heap S T m ∧ GotI ns i T m) →
      (∀ s' T m, Moved (S :: wr) G s s' → SetR w s'.heap S T m → GotI ns n T m → (∀ b o, h0.get? b = some o → s'.heap.get? b = some o) → R (.ok (.ret .none)) s') →
      codeAny (model P w) A (.builtin "set.update.loop" ⟨[.ref S, .ref I], []⟩) R s := by
  have hSw : S ∉ wr := fun h => hSf (W.sub _ h)
  have hsub : ∀ b ∈ wr, b ∈ S :: wr := fun b hb => List.mem_cons_of_mem _ hb
  have keepM : ∀ {s s' : Shared}, Moved wr G s s' → (∀ b o, h0.get? b = some o → s.heap.get? b = some o) → ∀ b o, h0.get? b = some o → s'.heap.get? b = some o := fun hm hkp b o e =>
    hm.heap b o (fun hb => by rw [hw0 b hb] at e; cases e) (hkp b o e)
  intro k
  induction k with
  | zero =>
    intro i s hk' hi hst hkp ⟨T, m, hS, g⟩ hR
    have hin : i = n := by omega
    subst hin
    refine codeAny_builtin F.entry_set_update_loop ?_
    rw [Around.under_plainId F.plain_set_update_loop _]
    show wpAny _ A.in1 (pyNext (.ref I) >>= _) _ _ s
    refine wpAny_bind (W.done s _ _ hst fun s' hm => ?_)
    show wpAny _ A.in1 (ret Value.none) _ _ s'
    have hkp' := keepM hm hkp
    exact wpAny_pure (hR s' T m (hm.mono hsub) (hS.at fun o e => hm.heap S o hSw e) g hkp')
  | succ k ih =>
    intro i s hk' hi hst hkp ⟨T, m, hS, g⟩ hR
    have hlt : i < n := by omega
    refine codeAny_builtin F.entry_set_update_loop ?_
    rw [Around.under_plainId F.plain_set_update_loop _]
    show wpAny _ A.in1 (pyNext (.ref I) >>= _) _ _ s
    refine wpAny_bind (W.item i s _ _ hlt hst fun v s' hP hst' hm => ?_)
    obtain ⟨x, t, hx, rfl⟩ := hval i v hP
    have hkp' := keepM hm hkp
    have hS' : SetR w s'.heap S T m := hS.at fun o e => hm.heap S o hSw e
    show wpAny _ A.in1 (holding [Value.int x t] (setAdd S (.int x t)) >>= _) _ _ s'
    refine wpAny_bind (wpAny_holding ?_)
    unfold setAdd
    refine wpAny_holding ?_
    refine wpAny_bind ((intKind P w).pyHash (k := x) (intKind_is _ _ _ _) ?_)
    refine setR_add_hashed (s := { s' with toks := s'.toks + 1 }) hS' (by have := g.2; omega) fun h' hsb hS2 => ?_
    have g' := gotI_succ g hx
    have hkp2 : ∀ b o, h0.get? b = some o → h'.get? b = some o := fun b o e => (hsb.2 b (fun z => by rw [z, hS0] at e; cases e)).trans (hkp' b o e)
    refine wpAny_pure ⟨plainId_quiet F.plain_set_update_loop _, ih (i + 1) _ (by omega) hlt (W.frame _ s' _ _ hst' (Nat.le_succ _) fun b hb o e => ?_) hkp2 ⟨_, _, hS2, g'⟩ fun s'' T2 m2 hm'' hS'' g'' hkp'' => ?_⟩
    · rw [hsb.2 b (fun h : b = S => hSf (by rw [← h]; exact hb))]; exact e
    · refine hR s'' T2 m2 (Moved.trans W.gtrans ((hm.mono hsub).then_heap (Nat.le_succ _) fun b o hb e => ?_) hm'') hS'' g'' hkp''
      rw [hsb.2 b (fun h : b = S => hb (by rw [h]; exact List.mem_cons_self))]; exact e
set_option maxHeartbeats 8000000 in
theorem call_set_ints {l : Addr} {items : Array Value} (ns : List Int) {Q : Value → Shared → Prop} (hh : A.handled = none) (hl : s.heap.IsList l items) (hit : IntsAre items.toList ns) (hfew : ns.length + 1 < scanBound)
    (h : ∀ (h' : Heap) (tk : Nat) T m, SetR w h' s.heap.objs.size T m → GotI ns ns.length T m → (∀ b o, s.heap.get? b = some o → h'.get? b = some o) → Q (.ref s.heap.objs.size) { s with heap := h', toks := tk }) :
    wpAny (model P w) A (call (.type "set") [.ref l]) Q E s := by
  have hisz : items.size = ns.length := by
    have q := IntsAre.length hit
    rw [Array.length_toList] at q
    exact q
  obtain ⟨c, tl, hmro⟩ := F.called_set.mro
  have hmade := F.called_set.made
  have hsub := F.called_set.sub
  refine wpAny_call (codeAny_of_tree ?_)
  show wpAny _ _ (callAny (.type "set") _) _ _ _
  refine wpAny_pure ⟨Code.quiet_builtin _ (by decide +kernel), codeAny_builtin F.entry_type_call ?_⟩
  rw [Around.under_plain (weight_type_call_type "set" [.ref l] []) rfl]
  have h1 := F.called_set.notType
  have h2 := F.called_set.canCreate
  have hct := F.typeCall_set_1 (.ref l)
  repeat (any_goals (first | assumption | wp_step))

  refine codeAny_mono (code_set_led1 (.ref l) (E := E) (Q₁ := fun obj s₁ => obj = .ref s.heap.objs.size ∧ s₁ = { s with heap := s.heap.push { cls := .type "set", dict := none, data := .set #[] 0 (.fresh 0 0 (!w.params.followText "set-order")) } }) ⟨rfl, rfl⟩) fun r s₁ hr => ?_
  cases r with
  | error e => exact hr
  | ok fl =>
    cases fl with
    | ret obj =>
      obtain ⟨rfl, rfl⟩ := hr
      have hS : (s.heap.push { cls := .type "set", dict := none, data := .set #[] 0 (.fresh 0 0 (!w.params.followText "set-order")) }).get? s.heap.objs.size = some { cls := .type "set", dict := none, data := .set #[] 0 (.fresh 0 0 (!w.params.followText "set-order")) } := Heap.get?_push_size _ rfl
      have hT : Shared.TypeIs { s with heap := s.heap.push { cls := .type "set", dict := none, data := .set #[] 0 (.fresh 0 0 (!w.params.followText "set-order")) } } (.ref s.heap.objs.size) "set" := ⟨_, hS, rfl⟩
      have hli := F.called_set.init.lookup
      have hbi := F.called_set.init.bind (.ref s.heap.objs.size)
      repeat (any_goals (first | assumption | wp_step))

      refine codeAny_mono (codeAny_call_builtin (R := wants (fun r s₂ => r = .none ∧ ∃ h' tk T m, s₂ = { s with heap := h', toks := tk } ∧ SetR w h' s.heap.objs.size T m ∧ GotI ns ns.length T m ∧
          (∀ b o, s.heap.get? b = some o → h'.get? b = some o)) E) F.called_set.init.plain F.entry_set_init (check_set_init_1 hT ?_)) fun r₂ s₂ hr₂ => ?_
      · obtain ⟨ol, hol, hcl, nl, hdl⟩ := hl
        obtain ⟨ocls, odict, odata, oslots⟩ := ol
        simp only at hcl hdl
        subst hcl; subst hdl
        have hol' : (s.heap.push { cls := .type "set", dict := none, data := .set #[] 0 (.fresh 0 0 (!w.params.followText "set-order")) }).get? l = some { cls := .type "list", dict := odict, data := .seq items nl, slots := oslots } := Heap.get?_push_of_some _ hol
        have hsls := F.sub_list_set
        have hslf := F.sub_list_frozenset
        have hne : (Value.type "list" == Value.type "dict") = false := by decide
        have hl1 : (s.heap.push { cls := .type "set", dict := none, data := .set #[] 0 (.fresh 0 0 (!w.params.followText "set-order")) }).IsList l items := ⟨_, hol', rfl, nl, rfl⟩
        unfold Builtin.«set.__init__» noKeywords Builtin.Frozenset.updateFrom
        generalize hPI : pyIter = PI
        wp_walk
        subst hPI

        refine wpAny_pyIter_list hl1 ?_
        refine wpAny_bind (wpAny_runValue ?_)
        have hlS : l < s.heap.objs.size := Heap.lt_size hol
        have hh3 : A.in1.in1.in1.handled = none := by simp [hh]
        have hneI : l ≠ (s.heap.push { cls := .type "set", dict := none, data := .set #[] 0 (.fresh 0 0 (!w.params.followText "set-order")) }).objs.size := by
          rw [Heap.size_push]; exact Nat.ne_of_lt (Nat.lt_succ_of_lt hlS)
        have hSf : s.heap.objs.size ∉ [(s.heap.push { cls := .type "set", dict := none, data := .set #[] 0 (.fresh 0 0 (!w.params.followText "set-order")) }).objs.size, l] := by
          rw [Heap.size_push]; simp only [List.mem_cons, List.mem_singleton, List.not_mem_nil, or_false, not_or]
          exact ⟨Nat.ne_of_lt (Nat.lt_succ_self _), Nat.ne_of_gt hlS⟩
        have hval : ∀ (i : Nat) (v : Value), items[i]? = some v → ∃ k t, ns[i]? = some k ∧ v = .int k t := fun i v hv => by
          have q : items.toList[i]? = some v := by rw [Array.getElem?_toList]; exact hv
          obtain ⟨k, t, e1, e2⟩ := IntsAre.at hit i v q
          exact ⟨k, t, e2, e1⟩
        have none_of : ∀ b, s.heap.objs.size ≤ b → s.heap.get? b = none := fun b hb => by
          cases q : s.heap.get? b with
          | none => rfl
          | some o => exact absurd (Nat.lt_of_lt_of_le (Heap.lt_size q) hb) (Nat.lt_irrefl _)
        refine set_update_ints ((Walks.list hh3 _ l hneI items).toS) s.heap.objs.size
          hSf ns hisz hfew hval s.heap (none_of _ (Nat.le_refl _)) (fun b hb => none_of b (by
            rw [List.mem_singleton.mp hb, Heap.size_push]
            exact Nat.le_succ _)) (items.size - 0) 0 _ (by omega) (Nat.zero_le _)
          ⟨⟨_, Heap.get?_push_size _ rfl, rfl, rfl⟩, (hl1.push _)⟩ (fun b o e => Heap.get?_push_of_some _ (Heap.get?_push_of_some _ e)) ?hS0 ?hR
        case hS0 =>
          exact ⟨_, 0, (setR_fresh (h := s.heap) w).at fun o e => Heap.get?_push_of_some _ e, fun k => by simp, Nat.le_refl _⟩
        case hR =>
          intro s' T m hm hS' g' hkp
          obtain ⟨h', g2, d', tk', os'⟩ := s'
          have eg : g2 = s.gens := hm.gens
          have ed : d' = s.drawn := hm.drawn
          have eo : os' = s.os := hm.os
          subst eg; subst ed; subst eo
          show wpAny _ _ _ _ _ _
          refine wpAny_pure ?_
          show wpAny _ _ (ret Value.none) _ _ _
          rw [hisz] at g'
          exact wpAny_pure ⟨rfl, h', tk', T, m, rfl, hS', g', hkp⟩

      · cases r₂ with
        | error e => exact hr₂
        | ok fl₂ =>
          cases fl₂ with
          | ret r =>
            obtain ⟨rfl, h', tk, T, m, rfl, hS', g', hk'⟩ := hr₂
            repeat (any_goals (first | assumption | wp_step))
            exact h _ _ _ _ hS' g' hk'
          | _ => exact hr₂.elim
    | _ => exact hr.elim
end
section
variable {X : Cx}
theorem nodup_len {α : Type} [DecidableEq α] : ∀ (L D : List α), L.Nodup → (∀ z ∈ L, z ∈ D) → L.length ≤ D.length
  | [], _, _, _ => Nat.zero_le _
  | x :: L, D, hn, hD => by
    have hx := hD x (List.mem_cons_self ..)
    obtain ⟨h1, h2⟩ := List.nodup_cons.mp hn
    have := nodup_len L (D.erase x) h2 fun z hz => (List.mem_erase_of_ne (fun e => h1 (by rw [← e]; exact hz))).mpr (hD z (List.mem_cons_of_mem _ hz))
    rw [List.length_erase_of_mem hx] at this
    have hp : 0 < D.length := List.length_pos_of_mem hx
    rw [List.length_cons]; omega
theorem setR_le {w : World} {h : Heap} {a : Addr} {T : Int → Bool} {m : Nat} (R : SetR w h a T m) {D : List Int} (hD : ∀ k, T k = true → k ∈ D) : m ≤ D.length := by
  obtain ⟨o, es, ep, t, _, _, _, _, nd, hm, _, _, hn, _⟩ := R
  have := nodup_len (es.toList.map keyOf) D nd fun z hz => hD z ((hm z).mpr hz)
  rw [List.length_map, Array.length_toList] at this
  omega
def rSetI (K : Frag) (w : World) : List V → Hp → VK → Prop := fun xs H Q => ∃ (l : Addr) (ns D : List Int), xs = [V.ref l] ∧ SqL K H l (ns.map V.int) ∧ ns.length + 1 < scanBound ∧ (∀ z ∈ ns, z ∈ D) ∧ ∀ a T m, H a = none → (∀ k, T k = true ↔ k ∈ ns) → m ≤ D.length → Q (.ref a) (upd H a (SetO w a T m))
theorem cr_setI (hc : X.calm = true) : CallR X (.type "set") (rSetI X.K X.w) := by
  intro pins s σ H xs us Q I r h
  obtain ⟨l, ns, D, rfl, hl, hf, hD, q⟩ := h
  rw [Vals.ref1 r]
  obtain ⟨its, rv, pl, hz⟩ := I.list hl
  refine call_set_ints (P := X.prog) (w := X.w) ns (I.ok.hd hc) pl.isList (by simpa using ints_of_vals rv) hf fun h' tk T m R g k => ?_
  have hT : ∀ k, T k = true ↔ k ∈ ns := fun k => by have := g.1 k; rwa [List.take_length] at this
  exact ⟨.ref s.heap.objs.size, upd H s.heap.objs.size (SetO X.w s.heap.objs.size T m), I.laid (t' := tk) k (Nat.le_refl _) (setO_new R), rfl, q _ T m (I.hok.fresh (Nat.le_refl _)) hT (setR_le R fun k hk => hD k ((hT k).mp hk))⟩
/-- sorted(set(xs)) of a list of numbers -/
structure SSet (K : Frag) (H : Hp) (p : Addr) (Q : V → Hp → Prop) : Prop where
  ex : ∃ ns D : List Int, SqL K H p (ns.map V.int) ∧ ns.length + 1 < scanBound ∧ D.length < 64 ∧ (∀ z ∈ ns, z ∈ D) ∧ ∀ (rs : List Int) (q : Addr) (H' : Hp), rs.Pairwise (· < ·) → (∀ k, k ∈ rs ↔ k ∈ ns) → Same H H' → H q = none → H' q = some (.lst (rs.map V.int)) → Q (.ref q) H'
def dSSet (K : Frag) (te : TE) : TE := fun σ H Q => te σ H fun x H1 => match x with
  | .ref p => SSet K H1 p Q
  | _ => False
/-- a reading closed under weaker wishes -/
def upE (te : TE) : TE := fun σ H Q => ∃ C : VK, te σ H C ∧ ∀ x H1, C x H1 → Q x H1
theorem pe_up {e : Expr} {te : TE} (he : PE X e te) : PE X e (upE te) := ⟨fun pins s σ H Q I h => by
  obtain ⟨C, h1, h2⟩ := h
  exact thn (he.run pins s σ H C I h1) fun v s1 ⟨x, H1, I1, r1, q1⟩ => ⟨x, H1, I1, r1, h2 x H1 q1⟩⟩
theorem pe_sset {e : Expr} {te : TE} {p1 p2 pos1 pos2 : Pos} (hc : X.calm = true) (h1 : X.mg "sorted" = none) (h2 : X.mg "set" = none) (b1 : bootBuiltins "sorted" = some (.builtin "sorted")) (b2 : bootBuiltins "set" = some (.type "set")) (he : PE X e te) (g1 : Gl X "sorted" := by rfl) (g2 : Gl X "set" := by rfl)
    (hs : starEach [.Call (.Name "set" p2) [e] [] pos2] X.env = (false, eval (.Call (.Name "set" p2) [e] [] pos2) X.env) :: starEach [] X.env := by rfl) (hs2 : starEach [e] X.env = (false, eval e X.env) :: starEach [] X.env := by rfl) :
    PE X (.Call (.Name "sorted" p1) [.Call (.Name "set" p2) [e] [] pos2] [] pos1) (dSSet X.K te) := by
  have hi : PE X (.Call (.Name "set" p2) [e] [] pos2) (tCB (rSetI X.K X.w) (tCons (upE te) tNil)) := pe_ct (cr_setI hc) h2 b2 (pa_cons (pe_up he) pa_nil (hs := hs2)) g2 (by decide) (by decide) hs2 rfl
  have ho : PE X (.Call (.Name "sorted" p1) [.Call (.Name "set" p2) [e] [] pos2] [] pos1) (tCB (rSortedSet X.w) (tCons (tCB (rSetI X.K X.w) (tCons (upE te) tNil)) tNil)) := pe_cb (cr_sortedSet hc) h1 b1 (pa_cons hi pa_nil (hs := hs)) g1 (by decide) (by decide) hs rfl
  refine PE.of ho fun σ H Q q => ?_
  refine ⟨_, q, fun x H1 q1 => ?_⟩
  cases x <;> try exact q1.elim
  obtain ⟨ns, D, hl, hf, hD, hsub, q2⟩ := q1.ex
  refine ⟨_, ns, D, rfl, hl, hf, hsub, fun a T m na hT hm => ?_⟩
  refine ⟨a, T, m, rfl, upd_same, by omega, fun rs p hp hmem _ np => ?_⟩
  have e1 := same_new (o := SetO X.w a T m) na
  refine q2 rs p _ hp (fun k => (hmem k).trans (hT k)) (e1.trans (same_new np)) ?_ upd_same
  cases e : H1 p with
  | none => rfl
  | some o => rw [e1 _ _ e] at np; cases np
end
end S
namespace S
open PySem PySem.Spec PyProof.Rows L2
def dTestO (K : Frag) (c : Str) (sp : Sp) (E : XK) (ta : TE) : TT := fun σ H Q => ta σ H fun x H1 => match x with
  | .ref p => IsO K H1 c p (sp [.ref p] H1 (isB Q) E)
  | x => dTru K x H1 fun b => Q b H1
theorem pt_ofO {X : Cx} {a : Expr} {ta : TE} {c : Str} {g : Addr} {k : Nat} {sp : Sp} {E : XK} (hm : Meth X.K (He.ga X.K c) "__bool__" g) (F : FnR X.prog X.w X.K X.mg X.base (L2.CX X.prog X.w) k g sp) (hr : Room k X.A) (hx : ∀ σ, PassesAt (L2.CX X.prog X.w) X σ E)
    (ha : PE X a ta) (he : ∀ whole, isTrue a X.env whole = (do let v ← whole; standAt a.pos; holding [v] (truthy v)) := by intro _; rfl) : PT X a (dTestO X.K c sp E ta) := by
  refine ⟨fun pins s σ H Q I h => ?_⟩
  refine isTrue_plain (thn (ha.run pins s σ H _ I h) fun v s1 ⟨x, H1, I1, r1, q1⟩ => ?_) (he _)
  cases x with
  | bl b =>
    exact tru_ok pins s1 σ H1 (.bl b) v Q I1 r1 ⟨b, rfl, q1⟩
  | non =>
    exact tru_ok pins s1 σ H1 .non v Q I1 r1 ⟨false, rfl, q1⟩
  | int i =>
    refine tru_ok pins s1 σ H1 (.int i) v Q I1 r1 ⟨_, rfl, ?_⟩
    have e : (i != 0) = decide (i ≠ 0) := by by_cases h : i = 0 <;> simp [h]
    rw [e]; exact q1
  | str z =>
    refine tru_ok pins s1 σ H1 (.str z) v Q I1 r1 ⟨_, ⟨q1.c, rfl⟩, ?_⟩
    have e : ((z.length : Int) != 0) = decide (z.length ≠ 0) := by by_cases h : z.length = 0 <;> simp [h]
    rw [e]; exact q1.q
  | ref p =>
    obtain ⟨⟨dx, vs, hsl⟩, q⟩ := q1
    cases r1
    obtain ⟨sl, od, _, J, _⟩ := SlX.slt_inst I1 hsl
    obtain ⟨m, hF⟩ := I1.fr
    refine PySem.W.truthy_K hF I1.ok.mod.kin J hm.at_ hm.fn (wpAny_mono (run_op (us := [.ref p]) (vs := [.ref p]) F hr I1.env0 hx I1 (.cons rfl .nil) q) (fun w s' z => ?_) fun _ _ x => x)
    obtain ⟨z', H', I', rz, qz⟩ := z
    obtain ⟨b, e, qz⟩ := isB_ex qz
    subst e
    cases rz
    exact ⟨H', I', qz⟩
  | _ => exact q1.elim
end S
namespace S
open PySem PySem.Spec PyProof.Rows L2
section
variable {X : Cx} {k n : Nat} {f : Addr} {sp : SpG} {x : Str} {p pos : Pos} {e : Expr} {es : List Expr} {t tk : TA} {gV : List V → List V → List V} {ks : List Str} {kws : List Keyword}
theorem run_gfk {pins : List (Addr × Obj)} {σ : L2.St} {H : Hp} {s : Shared} {us ws : List Value} {vs zs : List V} {cont : List V → Hp → Prop} {E : XK} {E1 : Value → Shared → Prop} (F : GFK X.prog X.w X.K X.mg X.base k f n ks sp gV) (hr : Room k X.A)
    (I : Inv X pins σ H s) (r : Vals vs us) (rz : Vals zs ws) (l1 : vs.length = n) (l2 : zs.length = ks.length) (h : sp (gV vs zs) H cont E) :
    wpAny (model X.prog X.w) X.A (call (.ref f) us (ks.zip ws)) (fun u s' => ∃ H1 sc ex, Inv X pins σ H1 sc ∧ ExOk X pins ex ∧ GMade X.prog X.w k X.stack H1 sc ex cont E u s') E1 s := by
  obtain ⟨fd, ps, gg, F, hb⟩ := F.ex
  have r2 := hb.rel r rz
  refine wpAny_call (codeAny_mono (F.run X.A X.stack s H ⟨us, ks.zip ws⟩ (gg us ws) (gV vs zs) cont E hr I.env0 (hb.to s us ws I.kIn (r.length.symm.trans l1) (rz.length.symm.trans l2)) r2 h) fun r s' hq => ?_)
  cases r with
  | error e => exact False.elim hq
  | ok fl =>
    cases fl with
    | ret u => exact ⟨H, s, [], I, .nil, hq⟩
    | next => exact False.elim hq
    | brk => exact False.elim hq
    | cont => exact False.elim hq
/-- f(e, .., k = v, ..) -/
def tCallGK (n m : Nat) (sp : SpG) (gV : List V → List V → List V) (t tk : TA) : TGenE := fun E σ H cont => t σ H fun vs H1 => tk σ H1 fun zs H2 => vs.length = n ∧ zs.length = m ∧ sp (gV vs zs) H2 cont E
theorem pgen_callK (F : GFK X.prog X.w X.K X.mg X.base k f n ks sp gV) (hr : Room k X.A) (hm : X.mg x = some (.ref f)) (hk : PySem.W.keepIn X.K (.ref f) = true)
    (ha : PA X (e :: es) t) (hkw : PK X kws tk) (hg : Gl X x := by rfl) (hall : (backToKw pos (keywordEach kws X.env)).all (·.1.isSome) = true := by rfl) (hks : (backToKw pos (keywordEach kws X.env)).filterMap (·.1) = ks := by rfl)
    (hdb : (x == ("__debug__" : Str)) = false := by decide) (he : starEach (e :: es) X.env = (false, eval e X.env) :: starEach es X.env := by rfl)
    (hpl : ((backTo pos (starEach (e :: es) X.env)).any (·.1) || (backToKw pos (keywordEach kws X.env)).any (·.1.isNone)) = false := by rfl) :
    PGenE X k (.Call (.Name x p) (e :: es) kws pos) (tCallGK n ks.length sp gV t tk) := by
  refine ⟨fun E => ⟨fun pins s σ H cont I h => ?_⟩⟩
  refine wpAny_Call_Name_kw (ld_glob I hg hm ?_ hdb)
  refine PySem.W.callWith_KW (h₀ := X.base) I.ok.mod.kin hk hall (thn (ha.run pos pins s σ H _ I h) fun us s1 ⟨vs, H1, I1, r, q⟩ => ?_) hpl he
  refine thn (hkw.run pos pins s1 σ H1 _ I1 q) fun ws s2 ⟨zs, H2, I2, rz, l1, l2, q2⟩ => ⟨I2.kIn, ?_⟩
  rw [hks]
  exact run_gfk F hr I2 r rz l1 l2 q2
end
end S
namespace S
open PySem PySem.Spec PyProof.Rows L2 GenW
/-! ### a heap's beginning as the ground of a run -/
def cut0 (h : Heap) (n : Nat) : Heap := { h with objs := h.objs.extract 0 n }
theorem cut0_ix {h : Heap} {n b : Nat} : (cut0 h n).objs[b]? = if b < n then h.objs[b]? else none := by
  unfold cut0
  simp only [Array.getElem?_extract]
  by_cases hb : b < n
  · rw [if_pos hb]
    by_cases h2 : b < h.objs.size
    · rw [if_pos (by omega), Nat.zero_add]
    · rw [if_neg (by omega)]
      exact (Array.getElem?_eq_none (by omega)).symm
  · rw [if_neg hb, if_neg (by omega)]
theorem cut0_get {h : Heap} {n b : Nat} {o : Obj} (e : (cut0 h n).get? b = some o) : b < n ∧ h.get? b = some o := by
  have ix := cut0_ix (h := h) (n := n) (b := b)
  unfold Heap.get? at e ⊢
  rw [ix] at e
  by_cases hb : b < n
  · rw [if_pos hb] at e
    exact ⟨hb, e⟩
  · rw [if_neg hb] at e
    cases e
theorem cut0_at {h : Heap} {n b : Nat} {o : Obj} (hb : b < n) (e : h.get? b = some o) : (cut0 h n).get? b = some o := by
  have ix := cut0_ix (h := h) (n := n) (b := b)
  unfold Heap.get? at e ⊢
  rw [ix, if_pos hb]
  exact e
theorem cut0_size {h : Heap} {n : Nat} : (cut0 h n).objs.size = min n h.objs.size := by
  unfold cut0
  simp
theorem cut0_funs {h base : Heap} {n : Nat} : ∀ {l : List Env}, h.FunFrames base l → (∀ b ∈ frs l, b < n) → (cut0 h n).FunFrames base l
  | [], _, _ => trivial
  | env :: rest, ⟨hk, ⟨L, o, e1, e2, e3, e4⟩, hr⟩, hb => by
    refine ⟨hk, ⟨L, o, e1, e2, cut0_at (hb L ?_) e3, e4⟩, cut0_funs hr fun b q => hb b ?_⟩
    · unfold frs
      rw [List.filterMap_cons, e1]
      exact List.mem_cons_self
    · unfold frs at q ⊢
      rw [List.filterMap_cons, e1]
      exact List.mem_cons_of_mem _ q
/-- the context over another ground -/
def rebC (X : Cx) (b : Shared × Hp) : Cx := { X with s_0 := { b.1 with heap := cut0 b.1.heap X.s_0.heap.objs.size }, H_0 := b.2 }
/-- the untracked objects stay -/
theorem un_cut {fs ex : List Addr} {H : Hp} {h : Heap} {n : Nat} : Un fs ex H H (cut0 h n) h where
  keep := fun _ _ e _ _ _ => (cut0_get e).2
  slot := fun _ o e _ _ _ => ⟨o.slots, (cut0_get e).2⟩
  free := fun _ _ _ q _ => q
  there := fun _ o e _ => ⟨o, (cut0_get e).2⟩
  tups := fun _ _ q => q
  frzs := fun _ _ _ q => q
  tbls := fun _ ps q => ⟨#[], by rw [q]; simp⟩
/-- what is known of a state in which a sleeping generator is woken -/
structure Wok (X : Cx) (gp : List (Addr × Obj)) (s : Shared) (H : Hp) : Prop where
  bare : AllBare s.gens
  bs : ∀ b o, X.base.get? b = some o → s.heap.get? b = some o ∧ H b = none
  bsz : X.base.objs.size ≤ s.heap.objs.size
  funs : s.heap.FunFrames X.base X.outer
  frf : ∀ b ∈ X.fs, H b = none
  hok : HOk X.prog X.w H s.heap
  gp : ∀ p ∈ gp, s.heap.get? p.1 = some p.2 ∧ H p.1 = none
section
variable {X : Cx} {pins : List (Addr × Obj)} {σ : L2.St} {H H' : Hp} {s s' : Shared} {b : Shared × Hp} {oL : Obj}
/-- over the ground where it stands -/
theorem inv_reb (I : Inv X pins σ H s) : Inv (rebC X (s, H)) pins σ H s := by
  have fr : ∀ q ∈ X.fs, q < X.s_0.heap.objs.size := fun q hq => by
    obtain ⟨_, o, ho, _⟩ := I.ok.funs.mem hq
    exact Heap.lt_size ho
  have hfs : ∀ q ∈ X.fs, H q = none := fun q hq => by
    obtain ⟨_, o, ho, _⟩ := I.ok.funs.mem hq
    exact I.base.free q o ho (I.ok.frf q hq) fun z => I.ok.exfs q z hq
  have sz : (cut0 s.heap X.s_0.heap.objs.size).objs.size = X.s_0.heap.objs.size := by
    rw [cut0_size]
    exact Nat.min_eq_left I.sz
  refine ⟨⟨I.ok.mod, I.ok.kind, I.ok.glob, I.ok.blt, ?_, I.ok.inj, I.ok.has, fun x c h1 h2 => ?_, I.ok.hd, I.ok.frames, I.ok.stk, I.ok.exf, fun q o e => ?_, ?_, I.ok.noex, I.ok.exfs, cut0_funs I.funs fr, hfs⟩, rfl, I.bare, un_cut, I.loc, I.cell, I.free, I.freeC, I.pin, I.hok, I.len⟩
  · show (cut0 s.heap _).objs.size ≤ _
    rw [sz]; exact I.ok.above
  · show (cut0 s.heap _).objs.size ≤ _
    rw [sz]; exact I.ok.cab x c h1 h2
  · obtain ⟨e1, e2⟩ := I.bs q o e
    exact ⟨cut0_at (Nat.lt_of_lt_of_le (Heap.lt_size e) I.ok.bsz) e1, e2⟩
  · show _ ≤ (cut0 s.heap _).objs.size
    rw [sz]; exact I.ok.bsz
/-- woken: what is its own stands as it stood -/
theorem inv_wake (I : Inv (rebC X b) pins σ H s) (hnl : X.s_0.heap.objs.size ≤ X.env.locals) (hbz : X.base.objs.size ≤ X.s_0.heap.objs.size) (hfr : ∀ q ∈ X.fs, q < X.s_0.heap.objs.size) (hc : ∀ x, X.env.cells.lookup x = none) (hL : s.heap.get? X.env.locals = some oL)
    (w : Wok X ((X.env.locals, oL) :: (X.pn ++ pins)) s' H') : Inv (rebC X (s', H')) pins σ H' s' := by
  obtain ⟨w1, w2⟩ := w.gp (X.env.locals, oL) List.mem_cons_self
  have lt : X.env.locals < s'.heap.objs.size := Heap.lt_size w1
  have sz : (cut0 s'.heap X.s_0.heap.objs.size).objs.size = X.s_0.heap.objs.size := by
    rw [cut0_size]
    exact Nat.min_eq_left (Nat.le_trans hnl (Nat.le_of_lt lt))
  refine ⟨⟨I.ok.mod, I.ok.kind, I.ok.glob, I.ok.blt, ?_, I.ok.inj, I.ok.has, fun x c _ h2 => ?_, I.ok.hd, I.ok.frames, I.ok.stk, I.ok.exf, fun q o e => ?_, ?_, I.ok.noex, I.ok.exfs, cut0_funs w.funs hfr, w.frf⟩, rfl, w.bare, un_cut, ?_, fun x c h => ?_, w2, fun x c h => ?_, fun p hp => ?_, w.hok, I.len⟩
  · show (cut0 s'.heap _).objs.size ≤ _
    rw [sz]; exact hnl
  · have h2 : X.env.cells.lookup x = some c := h2
    rw [hc x] at h2; cases h2
  · obtain ⟨e1, e2⟩ := w.bs q o e
    exact ⟨cut0_at (Nat.lt_of_lt_of_le (Heap.lt_size e) hbz) e1, e2⟩
  · show _ ≤ (cut0 s'.heap _).objs.size
    rw [sz]; exact hbz
  · obtain ⟨m, hn, hl⟩ := I.loc
    obtain ⟨o, es, ep, ho, hr⟩ := hn
    have ho' : s.heap.get? X.env.locals = some o := ho
    rw [hL] at ho'
    cases ho'
    refine ⟨m, ⟨oL, es, ep, w1, hr⟩, fun i x v h1 h2 h3 => ?_⟩
    obtain ⟨u, r, l⟩ := hl i x v h1 h2 h3
    refine ⟨u, r, l.imp (fun z => z) fun z => ?_⟩
    obtain ⟨_, c, e, _⟩ := z
    have e : X.env.cells.lookup x = some c := e
    rw [hc x] at e; cases e
  · have h : X.env.cells.lookup x = some c := h
    rw [hc x] at h; cases h
  · have h : X.env.cells.lookup x = some c := h
    rw [hc x] at h; cases h
  · obtain ⟨_, _, k3, k4, k5⟩ := I.pin p hp
    obtain ⟨g1, g2⟩ := w.gp p (List.mem_cons_of_mem _ hp)
    exact ⟨g1, g2, k3, k4, k5⟩
end

/-! ### a generator's body whose yields are the consumer's turns -/
abbrev TurnK := List V → V → Hp → (Hp → Prop) → Prop
abbrev WakeZ := List V → Shared → Hp → Prop
/-- the state in which the generator was woken -/
structure Gnd (X : Cx) (Z : WakeZ) (ys : List V) (s : Shared) (H : Hp) : Prop where
  z : Z ys s H
  sz : X.s_0.heap.objs.size ≤ s.heap.objs.size
/-- what a generator's body may count on -/
structure Alone (X : Cx) : Prop where
  nox : ∀ e s, X.xe e s → False
  nl : X.s_0.heap.objs.size ≤ X.env.locals
  bz : X.base.objs.size ≤ X.s_0.heap.objs.size
  fr : ∀ q ∈ X.fs, q < X.s_0.heap.objs.size
  nc : ∀ x, X.env.cells.lookup x = none
def GYf (X : Cx) (Z : WakeZ) (Kc : TurnK) : Protocol := fun n s₀ v s kap =>
  ∃ ys x ip σ H0 H oL post, n + 1 + ys.length = sizeLine ∧ RelV x v ∧ Gnd X Z ys s₀ H0 ∧ Inv (rebC X (s₀, H0)) ip σ H s ∧ s.heap.get? X.env.locals = some oL ∧ Kc ys x H post ∧
    ∀ s' H', Wok X ((X.env.locals, oL) :: (X.pn ++ ip)) s' H' → Z (ys ++ [x]) s' H' → post H' → kap (.send .none) s'
def GRf (X : Cx) (Z : WakeZ) (Q : List V → VK) : GenEnd := fun n s₀ r s => match r with
  | .ok (.ret u) => ∃ ys v ip σ H0 H, n + ys.length = sizeLine ∧ Gnd X Z ys s₀ H0 ∧ Inv (rebC X (s₀, H0)) ip σ H s ∧ RelV v u ∧ Q ys v H
  | _ => False
def GPf (X : Cx) (Z : WakeZ) (ip : List (Addr × Obj)) (D : GEnds) (ys : List V) (s₀ : Shared) (f : Flow) (s : Shared) : Prop := ∃ H0, Gnd X Z ys s₀ H0 ∧ SP (rebC X (s₀, H0)) ip (D.at ys) f s
structure GCf (X : Cx) (A : Around) (c : Code) (fs : List Frame) (gd : Bool → Bool) : Prop where
  over : A.over c fs = X.A
  split : splitAtGen fs = none
  guard : fs.any Frame.guarded = false
  gd : gd false = false
def GKf (X : Cx) (Z : WakeZ) (Kc : TurnK) (ip : List (Addr × Obj)) (A : Around) (R : GenEnd) (c : Code) (fs : List Frame) (K : Flow → Sem PySem.Fin) (D : GEnds) : Prop :=
  ∀ (n : Nat) (ys : List V) (s₀ s : Shared) (f : Flow), n + ys.length = sizeLine → GPf X Z ip D ys s₀ f s → Seg (model X.prog X.w) A R (GYf X Z Kc) n s₀ c (K f) fs s
def GRun (X : Cx) (Z : WakeZ) (Kc : TurnK) (m : Sem Flow) (t : TGn) : Prop :=
  ∀ (A : Around) (ip : List (Addr × Obj)) (R : GenEnd) (n : Nat) (ys : List V) (s₀ : Shared) (H0 : Hp) (c : Code) (fs : List Frame) (K : Flow → Sem PySem.Fin) (J : Value → Sem PySem.Fin) (gd : Bool → Bool) (lv : List Value → List Value) (s : Shared) (σ : L2.St) (H : Hp) (D : GEnds),
    GCf X A c fs gd → n + ys.length = sizeLine → Gnd X Z ys s₀ H0 → GKf X Z Kc ip A R c fs K D → Inv (rebC X (s₀, H0)) ip σ H s → t D ys σ H → Seg (model X.prog X.w) A R (GYf X Z Kc) n s₀ c (m.wrap K J gd lv) fs s
structure GSf (X : Cx) (Z : WakeZ) (Kc : TurnK) (st : Stmt) (t : TGn) : Prop where
  run : GRun X Z Kc (exec st X.env) t
structure GSsf (X : Cx) (Z : WakeZ) (Kc : TurnK) (st : List Stmt) (t : TGn) : Prop where
  run : GRun X Z Kc (execs st X.env) t
section
variable {X : Cx} {Z : WakeZ} {Kc : TurnK} {st : Stmt} {rest : List Stmt}
theorem gsf_ps {t : TS} (al : Alone X) (h : ∀ b, PS (rebC X b) st t) : GSf X Z Kc st (tPlain t) := by
  refine ⟨fun A ip R n ys s₀ H0 c fs K J gd lv s σ H D g hn hz k I ht => ?_⟩
  refine seg_wrap ?_
  rw [g.over]
  exact wpAny_mono ((h (s₀, H0)).run ip s σ H (D.at ys) I ht) (fun f s' hs => k n ys s₀ s' f hn ⟨H0, hz, hs⟩) fun x s' hx => (al.nox x s' hx).elim
theorem gssf_nil : GSsf X Z Kc [] tG0 := by
  refine ⟨fun A ip R n ys s₀ H0 c fs K J gd lv s σ H D g hn hz k I ht => ?_⟩
  exact seg_execs_nil (k n ys s₀ s .next hn ⟨H0, hz, σ, H, I, ht⟩)
theorem gssf_cons {t u : TGn} (a : GSf X Z Kc st t) (b : GSsf X Z Kc rest u) : GSsf X Z Kc (st :: rest) (tGThen t u) := by
  refine ⟨fun A ip R n ys s₀ H0 c fs K J gd lv s σ H D g hn hz k I ht => ?_⟩
  refine seg_execs_cons (a.run A ip R n ys s₀ H0 c fs _ J gd lv s σ H { D with nx := fun ys' σ' H' => u D ys' σ' H' } g hn hz (fun n' ys' s₀' s' f hn' hs => ?_) I ht)
  cases f with
  | next =>
    obtain ⟨H0', hz', σ', H', I', q⟩ := hs
    exact b.run A ip R n' ys' s₀' H0' c fs K J gd lv s' σ' H' D g hn' hz' k I' q
  | brk => exact k n' ys' s₀' s' .brk hn' hs
  | cont => exact k n' ys' s₀' s' .cont hn' hs
  | ret u => exact k n' ys' s₀' s' (.ret u) hn' hs
theorem gssf_one {t : TGn} (h : GSf X Z Kc st t) : GSsf X Z Kc [st] t := by
  have h2 := gssf_cons h (gssf_nil (X := X) (Z := Z) (Kc := Kc))
  exact ⟨fun A ip R n ys s₀ H0 c fs K J gd lv s σ H D g hn hz k I ht => h2.run A ip R n ys s₀ H0 c fs K J gd lv s σ H D g hn hz k I ht⟩
theorem gssf_stop {t : TGn} (h : GSsf X Z Kc rest t) : GSsf X Z Kc rest (gstop t) := ⟨fun A ip R n ys s₀ H0 c fs K J gd lv s σ H D g hn hz k I ht => h.run A ip R n ys s₀ H0 c fs K J gd lv s σ H D g hn hz k I ht.go⟩
theorem gsf_if {test : Expr} {body orelse : List Stmt} {pos : Pos} {c : TT} {t u : TGn} (al : Alone X) (hc : ∀ b, PT (rebC X b) test c) (ha : GSsf X Z Kc body t) (hb : GSsf X Z Kc orelse u) : GSf X Z Kc (.If test body orelse pos) (tGIf c t u) := by
  refine ⟨fun A ip R n ys s₀ H0 cd fs K J gd lv s σ H D g hn hz k I ht => ?_⟩
  show Seg _ _ _ _ _ _ _ ((do standAt pos; if ← isTrue test X.env (eval test X.env) then execs body X.env else execs orelse X.env : Sem Flow).wrap K J gd lv) _ _
  refine seg_bind_wrap (wpAny_standAt (seg_bind_wrap ?_))
  rw [g.over]
  refine wpAny_mono ((hc (s₀, H0)).run ip s σ H _ I ht) (fun b s' hb' => ?_) fun x s' hx => (al.nox x s' hx).elim
  obtain ⟨H2, I2, q2⟩ := hb'
  cases b with
  | true =>
    rw [if_pos rfl]
    exact ha.run A ip R n ys s₀ H0 cd fs K J gd lv s' σ H2 D g hn hz k I2 q2
  | false =>
    rw [if_neg Bool.false_ne_true]
    exact hb.run A ip R n ys s₀ H0 cd fs K J gd lv s' σ H2 D g hn hz k I2 q2
/-- yield e: the consumer's turn -/
def tFYield (Kc : TurnK) (te : TE) : TGn := fun D ys σ H => Need (ys.length < sizeLine) (te σ H fun x H1 => Kc ys x H1 fun H' => D.nx (ys ++ [x]) σ H')
theorem gsf_yield {e : Expr} {te : TE} {yp pos : Pos} (al : Alone X) (he : ∀ b, PE (rebC X b) e te) (hco : X.env.scope.isCoroutine = false := by rfl) (hi : interactive X.env = false := by rfl) : GSf X Z Kc (.Expr (.Yield (some e) yp) pos) (tFYield Kc te) := by
  refine ⟨fun A ip R n ys s₀ H0 c fs K J gd lv s σ H D g hn hz k I ht => ?_⟩
  obtain ⟨hlt, ht⟩ := ht
  obtain ⟨n, rfl⟩ : ∃ m, n = m + 1 := ⟨n - 1, by omega⟩
  refine seg_Expr_Yield g.split g.gd g.guard ?_ hco hi
  rw [g.over]
  refine wpAny_mono ((he (s₀, H0)).run ip s σ H _ I ht) (fun v s' hv => ?_) fun x s' hx => (al.nox x s' hx).elim
  obtain ⟨x, H1, I1, rv, q⟩ := hv
  intro kap hk
  obtain ⟨m, ⟨oL, es, ep, hL, hr⟩, _⟩ := id I1.loc
  have hL : s'.heap.get? X.env.locals = some oL := hL
  refine ⟨ys, x, ip, σ, H0, H1, oL, _, hn, rv, hz, I1, hL, q, fun s2 H2 w z p => hk .none s2 ?_⟩
  have lt : X.env.locals < s2.heap.objs.size := Heap.lt_size (w.gp (X.env.locals, oL) List.mem_cons_self).1
  refine k n (ys ++ [x]) s2 s2 .next ?_ ⟨H2, ⟨z, Nat.le_trans al.nl (Nat.le_of_lt lt)⟩, σ, H2, inv_wake I1 al.nl al.bz al.fr al.nc hL w, p⟩
  rw [List.length_append, List.length_singleton]; omega
theorem gcf_loop {A : Around} {c c' : Code} {fs : List Frame} {gd : Bool → Bool} {k : Result → Sem PySem.Fin} {l kp : List Value} {p : Pos} (g : GCf X A c fs gd) (hw : c'.weight = 0) (hu : c'.cUnits = 0) :
    GCf X A c' (.ret k none (gd false) l c p kp :: fs) id := by
  refine ⟨(over_loop hw hu).trans g.over, ?_, ?_, rfl⟩
  · show (splitAtGen fs).map _ = none
    rw [g.split] <;> rfl
  · show (gd false || fs.any Frame.guarded) = false
    rw [g.gd, g.guard] <;> rfl
theorem fpOk_reb {b b' : Shared × Hp} {ip : List (Addr × Obj)} {H H' : Hp} {q : Addr} (h : FpOk (rebC X b) ip H q) (hz : X.s_0.heap.objs.size ≤ b.1.heap.objs.size) (hn : H' q = none) : FpOk (rebC X b') ip H' q := by
  obtain ⟨_, h2, h3, h4, h5, h6⟩ := h
  refine ⟨hn, h2, h3, h4.imp (fun z => z) fun z => ?_, h5, h6⟩
  have z : (cut0 b.1.heap X.s_0.heap.objs.size).objs.size ≤ q := z
  show (cut0 b'.1.heap X.s_0.heap.objs.size).objs.size ≤ q
  rw [cut0_size] at z ⊢
  have z2 := Nat.min_eq_left hz
  rw [z2] at z
  exact Nat.le_trans (Nat.min_le_left _ _) z
theorem gsf_for {tg iter : Expr} {body : List Stmt} {wi : TI} {g : TG} {tb : TGn} {pos : Pos} (al : Alone X) (hc : X.calm = true) (hi : ∀ b, PI (rebC X b) tg iter wi) (hg : ∀ b, PG (rebC X b) tg g) (hb : GSsf X Z Kc body tb)
    (hs : ∀ x, foldedSetIterable iter X.env x = pure x := by intro _; rfl) : GSf X Z Kc (.For tg iter body [] pos) (dGFor wi g tb) := by
  refine ⟨fun A ip R n ys s₀ H0 c fs K J gd lv s σ H D gc hn hz k I ht => ?_⟩
  rw [exec_For]
  refine seg_bind_wrap (wpAny_standAt (seg_bind_wrap ?_))
  rw [gc.over]
  refine wpAny_mono ((hi (s₀, H0)).run ip s σ H _ I ht) (fun v s1 h1 => ?_) fun x s' hx => (al.nox x s' hx).elim
  refine seg_bind_wrap (wpAny_of_eq (hs v) (seg_bind_wrap (wpAny_standAt (seg_bind_wrap (wpAny_holding ?_)))))
  rw [gc.over]
  refine wpAny_mono h1 (fun itv s2 h2 => ?_) fun x s' hx => (al.nox x s' hx).elim
  obtain ⟨it, fp, tn, It, H2, e, I2, T, st2, f2, W, ⟨m0, w0⟩, turn⟩ := h2
  subst e
  refine seg_call fun p => ?_
  have gl := fun (kk : Result → Sem PySem.Fin) => gcf_loop (k := kk) (c' := .forLoop tg (.ref it) body [] X.env) (l := lv []) (kp := []) (p := p) gc rfl rfl
  have stat : ∀ {b' : Shared × Hp} {H' : Hp}, (∀ b ∈ fp, H' b = none) → ∀ b ∈ fp, FpOk (rebC X b') ip H' b := fun hn b hb => fpOk_reb (f2 b hb) hz.sz (hn b hb)
  have loop : ∀ (m i n : Nat) (ys : List V) (s₀ : Shared) (H0 : Hp) (s : Shared) (σ : L2.St) (H : Hp), n + ys.length = sizeLine → Gnd X Z ys s₀ H0 → W i m ys σ H → Inv (rebC X (s₀, H0)) ip σ H s → tn i s.heap → (∀ b ∈ fp, H b = none) →
      Seg (model X.prog X.w) A R (GYf X Z Kc) n s₀ (.forLoop tg (.ref it) body [] X.env) ((model X.prog X.w).den (.forLoop tg (.ref it) body [] X.env))
        (.ret (fun r => ((match r with | .ok f => (.pure f : Sem Flow) | .error e => .raise e).onRaise (cameBack X.env)).wrap K J gd lv) none (gd false) (lv []) c p [] :: fs) s := by
    intro m
    induction m using Nat.strongRecOn with
    | ind m ih =>
      intro i n ys s₀ H0 s σ H hn hz w I st fr
      refine seg_forLoop ?_
      rw [(gl _).over]
      rcases turn i m ys σ H w with ⟨stop, qn⟩ | ⟨go, N, hN, step⟩
      · refine wpAny_mono (T.done (rebC X (s₀, H0)) rfl rfl rfl hc i ip s σ H X.xe I (stat fr) st stop) (fun r s4 h4 => ?_) fun x s' hx => (al.nox x s' hx).elim
        obtain ⟨hr, I4⟩ := h4
        subst hr
        refine seg_block0 ?_
        exact seg_leaf (.ok .next) (k n ys s₀ s4 .next hn ⟨H0, hz, σ, H, I4, qn⟩)
      · refine wpAny_mono (T.item (rebC X (s₀, H0)) rfl rfl rfl hc i ip s σ H X.xe I (stat fr) st go) (fun r s4 h4 => ?_) fun x s' hx => (al.nox x s' hx).elim
        obtain ⟨u, hr, h4⟩ := h4
        subst hr
        refine wpAny_mono h4 (fun _ s5 h5 => ?_) fun x s' hx => (al.nox x s' hx).elim
        obtain ⟨x, H5, I5, r5, y5, st5, fr5⟩ := h5
        have I5' := I5.pinned (stat fr5) (T.obj _ _ st5)
        refine wpAny_mono ((hg (s₀, H0)).run _ s5 σ H5 x u _ I5' r5 (step x H5 y5)) (fun _ s6 h6 => ?_) fun x s' hx => (al.nox x s' hx).elim
        obtain ⟨σ6, H6, I6, q6⟩ := h6
        have again : ∀ {ys' : List V} {σ7 : L2.St} {H7 H0' : Hp} {s7 : Shared} {n' : Nat} {s₀' : Shared}, n' + ys'.length = sizeLine → Gnd X Z ys' s₀' H0' → Inv (rebC X (s₀', H0')) (ip ++ pinsAt fp s5.heap) σ7 H7 s7 → N ys' σ7 H7 →
            Seg (model X.prog X.w) A R (GYf X Z Kc) n' s₀' (.forLoop tg (.ref it) body [] X.env) (.pure (.again (.forLoop tg (.ref it) body [] X.env)))
            (.ret (fun r => ((match r with | .ok f => (.pure f : Sem Flow) | .error e => .raise e).onRaise (cameBack X.env)).wrap K J gd lv) none (gd false) (lv []) c p [] :: fs) s7 := by
          intro ys' σ7 H7 H0' s7 n' s₀' hn' hz' I7 n7
          obtain ⟨m', hm, w7⟩ := hN ys' σ7 H7 n7
          have pin : ∀ b ∈ fp, ∀ o, s5.heap.get? b = some o → s7.heap.get? b = some o ∧ H7 b = none := fun b hb o e => by
            have := I7.pin (b, o) (List.mem_append_right _ (List.mem_append_right _ (mem_pinsAt hb e)))
            exact ⟨this.1, this.2.1⟩
          refine seg_again rfl (ih m' hm (i + 1) n' ys' s₀' H0' s7 σ7 H7 hn' hz' w7 I7.unpinned (T.keep _ _ _ st5 fun b hb o e => (pin b hb o e).1) fun b hb => ?_)
          obtain ⟨o, e, d⟩ := T.obj _ _ st5 b hb
          exact (pin b hb o e).2
        refine hb.run A (ip ++ pinsAt fp s5.heap) R n ys s₀ H0 _ _ _ _ id id s6 σ6 H6 { D with nx := N, ct := N, bk := D.nx } (gl _) hn hz (fun n' ys' s₀' s7 f hn' hs => ?_) I6 q6
        obtain ⟨H0', hz', hs⟩ := hs
        cases f with
        | next =>
          obtain ⟨σ7, H7, I7, n7⟩ := hs
          exact again hn' hz' I7 n7
        | cont =>
          obtain ⟨σ7, H7, I7, n7⟩ := hs
          exact again hn' hz' I7 n7
        | brk =>
          obtain ⟨σ7, H7, I7, q7⟩ := hs
          exact seg_leaf (.ok .next) (k n' ys' s₀' s7 .next hn' ⟨H0', hz', σ7, H7, I7.unpinned, q7⟩)
        | ret v =>
          obtain ⟨y, σ7, H7, I7, r7, q7⟩ := hs
          exact seg_leaf (.ok (.ret v)) (k n' ys' s₀' s7 (.ret v) hn' ⟨H0', hz', y, σ7, H7, I7.unpinned, r7, q7⟩)
  exact loop m0 0 n ys s₀ H0 s2 σ H2 hn hz w0 I2 st2 fun b hb => (f2 b hb).1
end

/-! ### the call of such a def -/
abbrev SpF := List V → Hp → TurnK → (List V → Hp → Prop) → Prop
structure Wok0 (P : Program) (w : World) (base : Heap) (outer : List Env) (gp : List (Addr × Obj)) (s : Shared) (H : Hp) : Prop where
  bare : AllBare s.gens
  bs : ∀ b o, base.get? b = some o → s.heap.get? b = some o ∧ H b = none
  bsz : base.objs.size ≤ s.heap.objs.size
  funs : s.heap.FunFrames base outer
  frf : ∀ b ∈ frs outer, H b = none
  hok : HOk P w H s.heap
  gp : ∀ p ∈ gp, s.heap.get? p.1 = some p.2 ∧ H p.1 = none
/-- an item is handed out: n objects stood when the generator was made -/
def YItF (P : Program) (w : World) (base : Heap) (outer : List Env) (ng : Nat) (a : Addr) (g : Nat) (Z : WakeZ) (Kc : TurnK) : Protocol := fun n s₀ v s1 kap =>
  ∃ ys x H0 H gp post, n + 1 + ys.length = sizeLine ∧ RelV x v ∧ Z ys s₀ H0 ∧ s1.os = s₀.os ∧ AllBare s1.gens ∧ s1.heap.NoLimit ∧ s1.heap.IsGen a g ∧ Un (frs outer) [] H0 H (cut0 s₀.heap ng) s1.heap ∧ HOk P w H s1.heap ∧
    (∀ p ∈ gp, s1.heap.get? p.1 = some p.2 ∧ H p.1 = none ∧ p.1 ∉ frs outer ∧ ∀ v, p.2.data ≠ .cell v) ∧ (∃ o, (a, o) ∈ gp) ∧ Kc ys x H post ∧ ∀ s' H', Wok0 P w base outer gp s' H' → Z (ys ++ [x]) s' H' → post H' → kap (.send .none) s'
/-- the end -/
def FEnd (P : Program) (w : World) (outer : List Env) (ng : Nat) (Z : WakeZ) (Q : List V → Hp → Prop) (s₀ s1 : Shared) : Prop :=
  ∃ ys H0 H, Z ys s₀ H0 ∧ s1.os = s₀.os ∧ AllBare s1.gens ∧ Un (frs outer) [] H0 H (cut0 s₀.heap ng) s1.heap ∧ HOk P w H s1.heap ∧ Q ys H
def REnF (P : Program) (w : World) (outer : List Env) (ng : Nat) (Z : WakeZ) (Q : List V → Hp → Prop) : GenEnd := fun _ s₀ r s1 => ((r = .ok (.ret .none) ∨ r = .ok .next) ∧ FEnd P w outer ng Z Q s₀ s1) ∨ ∃ e, r = .error e ∧ False
/-- a generator that has not begun -/
def GMadeF (P : Program) (w : World) (K : Frag) (mg : Str → Option Value) (base : Heap) (k : Nat) (outer : List Env) (H : Hp) (s : Shared) (Kc : TurnK) (Q : List V → Hp → Prop) (u : Value) (s' : Shared) : Prop :=
  ∃ (a : Addr) (g : Nat) (c : Code), u = .ref a ∧ s.heap.objs.size ≤ a ∧ s'.heap.IsGen a g ∧ s'.gens[g]? = some (.fresh c) ∧ s'.os = s.os ∧ AllBare s'.gens ∧ s'.heap.NoLimit ∧ (∀ b o, s.heap.get? b = some o → s'.heap.get? b = some o) ∧
    ∀ (A : Around) (Z : WakeZ) (s2 : Shared), Room k A → A.frames = some outer → Env0 P w K mg base A outer s2 H → s2.heap = s'.heap → s2.os = s'.os → Z [] s2 H →
      Seg (model P w) A (REnF P w outer s.heap.objs.size Z Q) (YItF P w base outer s.heap.objs.size a g Z Kc) sizeLine s2 c ((model P w).den c) [] s2
def gcx0 (P : Program) (w : World) (K : Frag) (mg : Str → Option Value) (base : Heap) (N : List Str) (qual : Str) (scope : Scope) (f : Addr) (cd : Value) (A : Around) (outer : List Env) (s : Shared) (H : Hp) (pn : List (Addr × Obj)) : Cx :=
  { cxOf (L2.CX P w) P w K mg base N qual scope f cd A outer s H (fun _ _ _ => False) with pn := pn, xe := fun _ _ => False }
theorem cells_no {x : Str} : ∀ {names : List (Str × NameKind)} {n : Nat}, (∀ y ∈ names, y.2 ≠ .cell) → (cellsFrom n names []).lookup x = none
  | [], _, _ => rfl
  | (y, k) :: r, n, h => by
    have hk : (k == .cell) = false := by
      have := h (y, k) List.mem_cons_self
      cases k <;> first | rfl | exact absurd rfl this
    unfold cellsFrom
    rw [hk, if_neg Bool.false_ne_true]
    exact cells_no fun z hz => h z (List.mem_cons_of_mem _ hz)
structure GFF (P : Program) (w : World) (K : Frag) (mg : Str → Option Value) (base : Heap) (k : Nat) (f : Addr) (sp : SpF) : Prop where
  run : ∀ (A : Around) (outer : List Env) (s : Shared) (H : Hp) (us : List Value) (vs : List V) (Kc : TurnK) (Q : List V → Hp → Prop), Room k A → Env0 P w K mg base A outer s H → Vals vs us → sp vs H Kc Q →
    codeAny (model P w) A (.call (.ref f) ⟨us, []⟩) (fun r s' => match r with | .ok (.ret u) => GMadeF P w K mg base k outer H s Kc Q u s' | _ => False) s
theorem inv_swap {X Y : Cx} {pins : List (Addr × Obj)} {σ : L2.St} {H : Hp} {s : Shared} (I : Inv X pins σ H s) (e : Y = { X with xe := Y.xe }) : Inv Y pins σ H s := by
  rw [e]
  exact ⟨⟨I.ok.mod, I.ok.kind, I.ok.glob, I.ok.blt, I.ok.above, I.ok.inj, I.ok.has, I.ok.cab, I.ok.hd, I.ok.frames, I.ok.stk, I.ok.exf, I.ok.bs, I.ok.bsz, I.ok.noex, I.ok.exfs, I.ok.funs, I.ok.frf⟩, I.os, I.bare, I.base, I.loc, I.cell, I.free, I.freeC, I.pin, I.hok, I.len⟩
theorem inv_pn {X : Cx} {pn : List (Addr × Obj)} {σ : L2.St} {H : Hp} {s : Shared} (I : Inv X [] σ H s) (h : ∀ p ∈ pn, s.heap.get? p.1 = some p.2 ∧ H p.1 = none ∧ p.1 ≠ X.env.locals ∧ p.1 ∉ X.fs ∧ ∀ v, p.2.data ≠ .cell v) : Inv { X with pn := pn } [] σ H s :=
  ⟨⟨I.ok.mod, I.ok.kind, I.ok.glob, I.ok.blt, I.ok.above, I.ok.inj, I.ok.has, I.ok.cab, I.ok.hd, I.ok.frames, I.ok.stk, I.ok.exf, I.ok.bs, I.ok.bsz, I.ok.noex, I.ok.exfs, I.ok.funs, I.ok.frf⟩, I.os, I.bare, I.base, I.loc, I.cell, I.free, I.freeC, fun p hp => h p (by simpa using hp), I.hok, I.len⟩
/-- a generator def's promise to a loop, by its body -/
theorem gff_of {P : Program} {w : World} {K : Frag} {mg : Str → Option Value} {base : Heap} {k : Nat} {f : Addr} {x qual : Str} {params : Arguments} {body : List Stmt} {scope : Scope} {fd : FuncData} {N ps : List Str} {sp : SpF}
    (F : FunD K x qual params body scope [] [] f fd) (S : GScope N ps scope) (hnc : ∀ y ∈ scope.names, y.2 ≠ .cell) (len : ∀ vs H Kc Q, sp vs H Kc Q → vs.length = ps.length)
    (hbi : ∀ (kV doc pm : Value) (an : Option Addr) (cdv ct : Value) (us : List Value), us.length = ps.length → bindArgs (PySem.W.fnOf x qual params body scope .none kV doc pm an cdv ct) ⟨us, []⟩ = pure (ps.zip us)) {t : TurnK → TGn}
    (hbody : ∀ (cdv : Value) (A : Around) (outer : List Env) (s : Shared) (H : Hp) (pn : List (Addr × Obj)) (Z : WakeZ) (Kc : TurnK), Room k (A.deeper (envOfC qual scope s.heap.objs.size f cdv)) → Alone (gcx0 P w K mg base N qual scope f cdv A outer s H pn) →
      GSsf (gcx0 P w K mg base N qual scope f cdv A outer s H pn) Z Kc body (t Kc))
    (pure : ∀ vs H Kc Q, sp vs H Kc Q → t Kc { nx := fun ys _ H' => Q ys H', rt := fun ys v H' => v = .non ∧ Q ys H' } [] (start N vs) H) : GFF P w K mg base (k + 1) f sp := by
  refine ⟨fun A outer s H us vs Kc Q hr e0 r hsp => ?_⟩
  have hb := F.bindsN hbi
  obtain ⟨oc, od, dV, kV, doc, pm, an, cdv, ct, osl, rfl, lk, hcd, _, _⟩ := F.ex
  have hl := len _ _ _ _ hsp
  have hl2 : us.length = ps.length := by rw [← r.length]; exact hl
  have KX : K.In s.heap := e0.mod.kin.keeps fun b o e => (e0.bs b o e).1
  have lim : s.heap.NoLimit := e0.mod.nolimit.keeps fun b o e => (e0.bs b o e).1
  have hkind : ∀ y ∈ ps.zip us, scope.names.lookup y.1 = some .local ∨ (scope.names.lookup y.1 = some .cell ∧ ((cellsFrom (s.heap.objs.size + 1) scope.names []).lookup y.1).isSome = true) := fun ⟨n, v⟩ hy => by
    rcases S.par n (List.of_mem_zip hy).1 with q | q
    · exact .inl q
    · exact absurd rfl (hnc _ (PySem.mem_of_lookup q))
  have hbind := hb s us KX (by simpa using hl2)
  rw [List.append_nil] at hbind
  refine codeAny_call_generator hr.depth (KX _ _ lk) rfl S.co S.gen rfl (PySem.W.codeRec_of KX hcd) (hbind _ _ _ _ ?_)
  refine wpAny_newFunctionEnv_cells S.kind hkind fun env he s1 xx => ?_
  subst he
  have lim1 : s1.heap.NoLimit := lim.keeps xx.toInCall.keep
  refine ⟨lim1, ?_⟩
  obtain ⟨h1, tk, es1, hk1⟩ := xx.done
  have os1 : s1.os = s.os := by rw [es1]
  have gen1 : s1.gens = s.gens := by rw [es1]
  have lt1 : s.heap.objs.size < s1.heap.objs.size := xx.toInCall.ns.lt
  have main : ∀ (go : Obj) (nm qn : Value) (tk2 : Nat), go.cls = .type "generator" → go.data = .fields #[.int s1.gens.size 0, nm, qn] → go.slots = #[] → (∀ h : Heap, (h.push go).get? h.objs.size = some go) →
      GMadeF P w K mg base (k + 1) outer H s Kc Q (.ref s1.heap.objs.size) { s1 with gens := s1.gens.push (.fresh (.func body (envOfC qual scope s.heap.objs.size f cdv))), toks := tk2, heap := s1.heap.push go } := by
    intro go nm qn tk2 hgc hgd0 hgs hgp
    have hgen : ∀ h : Heap, h.get? s1.heap.objs.size = some go → h.IsGen s1.heap.objs.size s1.gens.size := fun h e => ⟨go, nm, qn, e, hgc, hgd0, hgs⟩
    have kpush : ∀ b o, s1.heap.get? b = some o → (s1.heap.push go).get? b = some o := fun b o e => Heap.get?_push_of_some _ e
    refine ⟨s1.heap.objs.size, s1.gens.size, _, rfl, Nat.le_of_lt lt1, hgen _ (hgp _), Array.getElem?_push_size .., os1, AllBare.push (by rw [gen1]; exact e0.bare) rfl, lim1.keeps kpush, fun b o e => kpush b o (xx.toInCall.keep b o e), ?_⟩
    intro Aw Z s2 hrw hfr e2 eh eo hz
    have eS : Env0 P w K mg base Aw outer s H := ⟨hfr, e0.mod, e0.bs, e0.bsz, e0.funs, e0.frf, e0.hok, e0.bare⟩
    have I1 : Inv (gcx0 P w K mg base N qual scope f cdv Aw outer s H []) [] (start N vs) H s1 := inv_swap (inv_startG (E := fun _ _ _ => False) S hrw.hd eS hl r xx) rfl
    have hgd : ∀ v, go.data ≠ .cell v := fun v q => by rw [hgd0] at q; cases q
    have al : Alone (gcx0 P w K mg base N qual scope f cdv Aw outer s H [(s1.heap.objs.size, go)]) := ⟨fun _ _ z => z, Nat.le_refl _, e0.bsz, fun q hq => by
      obtain ⟨_, o, ho, _⟩ := e0.funs.mem hq
      exact Heap.lt_size ho, fun y => cells_no hnc⟩
    have hfr0 : ∀ q ∈ frs outer, q < s.heap.objs.size := al.fr
    -- the frame stands in s2 as in s1
    have kp2 : ∀ b o, s1.heap.get? b = some o → s2.heap.get? b = some o := fun b o e => by rw [eh]; exact kpush b o e
    obtain ⟨m, ⟨oL, esL, epL, hL, hdL, hrL⟩, _⟩ := id I1.loc
    have I2 : Inv (gcx0 P w K mg base N qual scope f cdv Aw outer s H []) [] (start N vs) H s2 := I1.call' (ch := []) (eo.trans rfl) (Un.kept kp2) (I1.hok.kept kp2) e2.bare fun b z => by simp at z
    have hpn : s2.heap.get? s1.heap.objs.size = some go := by rw [eh]; exact hgp _
    have I3 : Inv (gcx0 P w K mg base N qual scope f cdv Aw outer s H [(s1.heap.objs.size, go)]) [] (start N vs) H s2 := inv_pn I2 fun p hp => by
      rw [List.mem_singleton.mp hp]
      refine ⟨hpn, I1.hok.fresh (Nat.le_refl _), Nat.ne_of_gt lt1, fun z => ?_, hgd⟩
      exact absurd (Nat.lt_trans (hfr0 _ z) lt1) (Nat.lt_irrefl _)
    have I4 := inv_reb I3
    have gz : Gnd (gcx0 P w K mg base N qual scope f cdv Aw outer s H [(s1.heap.objs.size, go)]) Z [] s2 H := ⟨hz, I3.sz⟩
    refine seg_func ?_
    refine seg_imp (R := GRf (gcx0 P w K mg base N qual scope f cdv Aw outer s H [(s1.heap.objs.size, go)]) Z fun ys v H' => v = .non ∧ Q ys H') (Y := GYf (gcx0 P w K mg base N qual scope f cdv Aw outer s H [(s1.heap.objs.size, go)]) Z Kc)
      (fun n s₀ r s1' hR => ?_) (fun n s₀ v s1' kap kap' hkk hY => ?_) sizeLine ?_
    · cases r with
      | error e => exact False.elim hR
      | ok fl =>
        cases fl with
        | next => exact False.elim hR
        | brk => exact False.elim hR
        | cont => exact False.elim hR
        | ret u =>
          obtain ⟨ys, v, ip, σ', H0, H', hn, hz', J, rv, ev, hQ⟩ := hR
          subst ev
          have eu : u = Value.none := rv
          subst eu
          exact .inl ⟨.inl rfl, ys, H0, H', hz'.z, J.os, J.bare, J.base, J.hok, hQ⟩
    · obtain ⟨ys, y, ip, σ', H0, H', oL', post, hn, rv, hz', J, hL', hk, hw⟩ := hY
      obtain ⟨m', ⟨o', es', ep', ho', hd', _⟩, _⟩ := id J.loc
      have ho' : s1'.heap.get? s.heap.objs.size = some o' := ho'
      have hL' : s1'.heap.get? s.heap.objs.size = some oL' := hL'
      rw [hL'] at ho'
      cases ho'
      refine ⟨ys, y, H0, H', (s.heap.objs.size, oL') :: ([(s1.heap.objs.size, go)] ++ ip), post, hn, rv, hz'.z, J.os, J.bare, J.nolimit, hgen _ (J.pin (s1.heap.objs.size, go) (List.mem_append_left _ (List.mem_singleton.mpr rfl))).1, J.base, J.hok, fun p hp => ?_, ⟨go, by simp⟩, hk, fun s' H2 wk z p => hkk _ _ (hw s' H2 ⟨wk.bare, wk.bs, wk.bsz, wk.funs, wk.frf, wk.hok, wk.gp⟩ z p)⟩
      rcases List.mem_cons.mp hp with e | hp
      · rw [e]
        refine ⟨hL', J.free, fun z => absurd (hfr0 _ z) (Nat.lt_irrefl _), fun v q => ?_⟩
        have q : oL'.data = .cell v := q
        rw [hd'] at q; cases q
      · obtain ⟨q1, q2, _, q4, q5⟩ := J.pin p hp
        exact ⟨q1, q2, q4, q5⟩
    · refine (hbody cdv Aw outer s H [(s1.heap.objs.size, go)] Z Kc (hrw.deeper _) al).run Aw [] _ sizeLine [] s2 H _ [] _ _ id id s2 (start N vs) H { nx := fun ys _ H' => Q ys H', rt := fun ys v H' => v = .non ∧ Q ys H' } ⟨over_func, rfl, rfl, rfl⟩ (Nat.add_zero _) gz (fun n ys s₀ s' fl hn hs => ?_) I4 (pure vs H Kc Q hsp)
      obtain ⟨H0, hz', hs⟩ := hs
      cases fl with
      | next =>
        obtain ⟨σ', H', J, hQ⟩ := hs
        exact seg_end (.ok (.ret .none)) ⟨ys, .non, [], σ', H0, H', hn, hz', J, rfl, rfl, hQ⟩
      | brk => obtain ⟨_, _, _, q⟩ := hs; exact False.elim q
      | cont => obtain ⟨_, _, _, q⟩ := hs; exact False.elim q
      | ret u =>
        obtain ⟨v, σ', H', J, rv, ev, hQ⟩ := hs
        exact seg_end (.ok (.ret u)) ⟨ys, v, [], σ', H0, H', hn, hz', J, rv, ev, hQ⟩
  exact main _ _ _ _ rfl rfl rfl fun h => Heap.get?_push_size _ rfl
end S
namespace S
open PySem PySem.Spec PyProof.Rows L2 GenW
section
variable (X : Cx)
def OpRg (f : Value → Value → Sem Value) (r : R2) : Prop := ∀ (pins : List (Addr × Obj)) (s : Shared) (σ : L2.St) (H : Hp) (x y : V) (v u : Value) (Q : VK), Inv X pins σ H s → RelV x v → RelV y u → r x y H Q →
  wpAny (model X.prog X.w) X.A (f v u) (fun z s' => s'.gens = s.gens ∧ EP X pins σ Q z s') X.xe s
structure PEg (e : Expr) (t : TE) : Prop where
  run : ∀ (pins : List (Addr × Obj)) (s : Shared) (σ : L2.St) (H : Hp) (Q : VK), Inv X pins σ H s → t σ H Q → wpAny (model X.prog X.w) X.A (eval e X.env) (fun z s' => s'.gens = s.gens ∧ EP X pins σ Q z s') X.xe s
structure PTg (e : Expr) (t : TT) : Prop where
  run : ∀ (pins : List (Addr × Obj)) (s : Shared) (σ : L2.St) (H : Hp) (Q : Bool → Hp → Prop), Inv X pins σ H s → t σ H Q → wpAny (model X.prog X.w) X.A (isTrue e X.env (eval e X.env)) (fun z s' => s'.gens = s.gens ∧ TP X pins σ Q z s') X.xe s
structure PSg (st : Stmt) (t : TS) : Prop where
  run : ∀ (pins : List (Addr × Obj)) (s : Shared) (σ : L2.St) (H : Hp) (D : Ends), Inv X pins σ H s → t D σ H → wpAny (model X.prog X.w) X.A (exec st X.env) (fun z s' => s'.gens = s.gens ∧ SP X pins D z s') X.xe s
structure PSsg (st : List Stmt) (t : TS) : Prop where
  run : ∀ (pins : List (Addr × Obj)) (s : Shared) (σ : L2.St) (H : Hp) (D : Ends), Inv X pins σ H s → t D σ H → wpAny (model X.prog X.w) X.A (execs st X.env) (fun z s' => s'.gens = s.gens ∧ SP X pins D z s') X.xe s
structure PGg (tg : Expr) (t : TG) : Prop where
  run : ∀ (pins : List (Addr × Obj)) (s : Shared) (σ : L2.St) (H : Hp) (v : V) (u : Value) (Q : L2.St → Hp → Prop), Inv X pins σ H s → RelV v u → t v σ H Q →
    wpAny (model X.prog X.w) X.A (assign tg X.env u) (fun _ s' => s'.gens = s.gens ∧ ∃ σ' H', Inv X pins σ' H' s' ∧ Q σ' H') X.xe s
structure PGsg (ts : List Expr) (t : TGs) : Prop where
  run : ∀ (pins : List (Addr × Obj)) (s : Shared) (σ : L2.St) (H : Hp) (vs : List V) (us : List Value) (Q : L2.St → Hp → Prop), Inv X pins σ H s → Vals vs us → t vs σ H Q →
    wpAny (model X.prog X.w) X.A (assignInOrder ((assignEach ts X.env).map (·.2)) us) (fun _ s' => s'.gens = s.gens ∧ ∃ σ' H', Inv X pins σ' H' s' ∧ Q σ' H') X.xe s
end
section
variable {X : Cx} {pos : Pos} {a b c e : Expr} {ta tb tc te : TE}
theorem pvg (i : Nat) {x : Str} (hN : X.N[i]? = some x := by rfl) (hv : Vis X.env.scope x := by first | exact Or.inl rfl | exact Or.inr (Or.inl rfl) | exact Or.inr (Or.inr rfl)) (hd : (x == ("__debug__" : Str)) = false := by decide)
    (hcd : (x == ("__classdict__" : Str)) = false := by decide) : PEg X (.Name x pos) (dVar i) := by
  refine ⟨fun pins s σ H Q I h => ?_⟩
  unfold dVar onSome at h
  cases e : nth σ i with
  | none => rw [e] at h; exact h.elim
  | some v =>
    rw [e] at h
    obtain ⟨m, hn, hl⟩ := I.loc
    obtain ⟨u, r, l⟩ := hl i x v hN (nth_ok e) hv
    have fin : s.gens = s.gens ∧ EP X pins σ Q u s := ⟨rfl, v, H, I, r, h⟩
    rcases l with ⟨hk, hm⟩ | ⟨hk, c, hc, hcell⟩
    · exact wpAny_Name (wpAny_loadName_local I.ok.kind hk hn hm fin) hd
    · rcases hk with hk | hk
      · exact wpAny_Name (wpAny_loadName_cell I.ok.kind hk hc hcell fin) hd
      · exact wpAny_Name (wpAny_loadName_free I.ok.kind hk hc hcell fin hcd) hd
theorem peg_int {i : Int} {j : Nat} : PEg X (.Constant (.int i) j pos) (tC (.int i)) := ⟨fun _ _ _ H _ I h => wpAny_Constant_int ⟨rfl, .int i, H, I.tok _, ⟨_, rfl⟩, h⟩⟩
theorem og_add {r : R2} (e : r = oI0 (fun i j => i + j)) : OpRg X (binaryOp .Add) r := fun pins s σ H x y v u Q I rx ry q => by
  subst e
  cases x <;> cases y <;> try exact q.elim
  rename_i i j
  obtain ⟨t, rfl⟩ := rx
  obtain ⟨t', rfl⟩ := ry
  exact add_int ⟨rfl, .int (i + j), H, I.tok _, ⟨_, rfl⟩, q⟩
theorem og_sub : OpRg X (binaryOp .Sub) oSub := fun pins s σ H x y v u Q I rx ry q => by
  cases x <;> cases y <;> try exact q.elim
  rename_i i j
  obtain ⟨t, rfl⟩ := rx
  obtain ⟨t', rfl⟩ := ry
  exact PyProof.Rows.sub_int ⟨rfl, .int (i - j), H, I.tok _, ⟨_, rfl⟩, q⟩
/-- + of two numbers alone -/
theorem og_addK {K : Frag} : OpRg X (binaryOp .Add) (fun x y H Q => int2 (fun i j => oAdd K (.int i) (.int j) H Q) x y) := fun pins s σ H x y v u Q I rx ry q => by
  cases x <;> cases y <;> try exact q.elim
  rename_i i j
  obtain ⟨t, rfl⟩ := rx
  obtain ⟨t', rfl⟩ := ry
  exact add_int ⟨rfl, .int (i + j), H, I.tok _, ⟨_, rfl⟩, q⟩
theorem og_lt : OpRg X (compareOp .Lt) oLt := fun pins s σ H x y v u Q I rx ry q => by
  cases x <;> cases y <;> try exact q.elim
  rename_i i j
  obtain ⟨t, rfl⟩ := rx
  obtain ⟨t', rfl⟩ := ry
  exact lt_int ⟨rfl, .bl (decide (i < j)), H, I, rfl, q⟩
theorem og_le : OpRg X (compareOp .LtE) oLe := fun pins s σ H x y v u Q I rx ry q => by
  cases x <;> cases y <;> try exact q.elim
  rename_i i j
  obtain ⟨t, rfl⟩ := rx
  obtain ⟨t', rfl⟩ := ry
  exact le_int ⟨rfl, .bl (decide (i ≤ j)), H, I, rfl, q⟩
theorem peg_op {op : Operator} {r : R2} (ho : OpRg X (binaryOp op) r) (ha : PEg X a ta) (hb : PEg X b tb) : PEg X (.BinOp a op b pos) (tOp r ta tb) := by
  refine ⟨fun pins s σ H Q I h => ?_⟩
  refine wpAny_BinOp (thn (ha.run pins s σ H _ I h) fun v s1 ⟨g1, x, H1, I1, r1, q1⟩ => thn (hb.run pins s1 σ H1 _ I1 q1) fun u s2 ⟨g2, y, H2, I2, r2, q2⟩ => thn (ho pins s2 σ H2 x y v u Q I2 r1 r2 q2) fun w s3 ⟨g3, q3⟩ => ⟨?_, q3⟩)
  rw [g3, g2, g1]
theorem ptg_chain {op op' : CmpOp} {r r' : R2} (ho : OpRg X (compareOp op) r) (ho' : OpRg X (compareOp op') r') (ha : PEg X a ta) (hb : PEg X b tb) (hc : PEg X c tc)
    (hm : lastMarks [op, op'] [b, c] = false := by with_unfolding_all rfl) : PTg X (.Compare a [op, op'] [b, c] pos) (dChainT r r' ta tb tc) := by
  refine ⟨fun pins s σ H Q I h => ?_⟩
  refine isTrue_chain (thn (ha.run pins s σ H _ I h) fun v s1 ⟨g1, x, H1, I1, r1, q1⟩ => test_link (thn (hb.run pins s1 σ H1 _ I1 q1) fun u s2 ⟨g2, y, H2, I2, r2, q2⟩ =>
    thn (ho pins s2 σ H2 x y v u _ I2 r1 r2 q2) fun d s3 ⟨g3, z, H3, I3, r3, q3⟩ => ?_)) hm
  obtain ⟨k, e, q3⟩ := isB_ex q3
  subst e
  cases r3
  have gg : s3.gens = s.gens := by rw [g3, g2, g1]
  refine wpAny_truthy_bool ?_
  cases k with
  | false => exact ite_ff ⟨gg, H3, I3, q3⟩
  | true =>
    refine ite_tt (test_last (thn (hc.run pins s3 σ H3 _ I3 q3) fun w' s4 ⟨g4, z', H4, I4, r4, q4⟩ => thn (ho' pins s4 σ H4 y z' u w' _ I4 r2 r4 q4) fun d' s5 ⟨g5, z2, H5, I5, r5, q5⟩ => ?_))
    obtain ⟨k2, e2, q5⟩ := isB_ex q5
    subst e2
    cases r5
    exact wpAny_truthy_bool ⟨by rw [g5, g4]; exact gg, H5, I5, q5⟩
theorem psg_if {sa sb : List Stmt} {tt : TT} {t u : TS} (hc : PTg X c tt) (ha : PSsg X sa t) (hb : PSsg X sb u) : PSg X (.If c sa sb pos) (dIfS tt t u) := by
  refine ⟨fun pins s σ H D I h => ?_⟩
  refine wpAny_If (thn (hc.run pins s σ H _ I h) fun d s1 ⟨g1, H1, I1, q1⟩ => ?_)
  cases d with
  | true => exact thn (ha.run pins s1 σ H1 D I1 q1) fun _ _ ⟨g2, q⟩ => ⟨g2.trans g1, q⟩
  | false => exact thn (hb.run pins s1 σ H1 D I1 q1) fun _ _ ⟨g2, q⟩ => ⟨g2.trans g1, q⟩
theorem pssg_nil : PSsg X [] tNext := ⟨fun _ _ σ H _ I h => wpAny_execs_nil ⟨rfl, σ, H, I, h⟩⟩
theorem pssg_cons {st : Stmt} {rest : List Stmt} {t u : TS} (h1 : PSg X st t) (h2 : PSsg X rest u) : PSsg X (st :: rest) (tSeq t u) := by
  refine ⟨fun pins s σ H D I h => ?_⟩
  refine wpAny_execs_cons (thn (h1.run pins s σ H { D with nx := u D } I h) fun f s1 ⟨g1, q⟩ => ?_)
  cases f with
  | next =>
    obtain ⟨σ', H', I', q⟩ := q
    exact thn (h2.run pins s1 σ' H' D I' q) fun _ _ ⟨g2, q⟩ => ⟨g2.trans g1, q⟩
  | ret v => exact ⟨g1, q⟩
  | brk => exact ⟨g1, q⟩
  | cont => exact ⟨g1, q⟩
theorem pssg_one {st : Stmt} {t : TS} (h1 : PSg X st t) : PSsg X [st] t := by
  have h2 := pssg_cons h1 (pssg_nil (X := X))
  exact ⟨fun pins s σ H D I h => h2.run pins s σ H D I h⟩
theorem pssg_stop {st : List Stmt} {t : TS} (h : PSsg X st t) : PSsg X st (stop t) := ⟨fun pins s σ H D I q => h.run pins s σ H D I q.go⟩
/-- a local name is stored -/
theorem store_g {pins : List (Addr × Obj)} {σ : L2.St} {H : Hp} {s : Shared} {i : Nat} {x : Str} {v : V} {u : Value} {Q : Unit → Shared → Prop} (I : Inv X pins σ H s) (hN : X.N.Nodup) (hi : X.N[i]? = some x) (hk : X.env.scope.names.lookup x = some .local) (r : RelV v u)
    (h : ∀ s', s'.gens = s.gens → Inv X pins (σ.set i (some v)) H s' → Q () s') : wpAny (model X.prog X.w) X.A (storeName X.env x u) Q X.xe s := by
  obtain ⟨m, hn, hl⟩ := id I.loc
  have hcls : (X.env.scope.kind == .class || (X.env.scope.kind == .module && X.env.locals != X.env.globals)) = false := by rw [I.ok.kind]; rfl
  have hiσ : i < σ.length := by rw [I.len]; exact (List.getElem?_eq_some_iff.mp hi).1
  have cne := I.cne
  refine wpAny_storeName_local hk hn (fun h' hn' hs => ?_) hcls
  obtain ⟨oL, _, _, hoL, _⟩ := id hn
  have old : ∀ q o, X.s_0.heap.get? q = some o → q ≠ X.env.locals := fun q o e => Nat.ne_of_lt (Nat.lt_of_lt_of_le (Heap.lt_size e) I.ok.above)
  have nl : ∀ q o, H q = some o → q ≠ X.env.locals := fun q o e z => by rw [z, I.free] at e; cases e
  refine h _ rfl ⟨I.ok, I.os, I.bare, ⟨fun q o e n hb hx => (hs.2 q (old q o e)).trans (I.base.keep q o e n hb hx), fun q o e n hb hx => ?_, I.base.free, fun q o e hx => ?_, I.base.tups, I.base.frzs, I.base.tbls⟩, ⟨_, hn', fun j y v' e1 e2 e3 => ?_⟩, fun y c e => ?_, I.free, I.freeC, fun p hp => ?_, fun q o e => ?_, by simpa using I.len⟩
  · obtain ⟨sl, e1⟩ := I.base.slot q o e n hb hx
    exact ⟨sl, (hs.2 q (old q o e)).trans e1⟩
  · obtain ⟨o', e1⟩ := I.base.there q o e hx
    exact ⟨o', (hs.2 q (old q o e)).trans e1⟩
  · by_cases hj : j = i
    · subst hj
      rw [hi] at e1
      cases e1
      rw [List.getElem?_set_self hiσ] at e2
      cases e2
      exact ⟨u, r, .inl ⟨hk, by simp⟩⟩
    · rw [List.getElem?_set_ne (Ne.symm hj)] at e2
      obtain ⟨u', r', q⟩ := hl j y v' e1 e2 e3
      refine ⟨u', r', q.imp (fun ⟨k, e⟩ => ⟨k, ?_⟩) fun ⟨k, c, e, z⟩ => ⟨k, c, e, z.sameBut hs (cne y c e)⟩⟩
      have : y ≠ x := fun e => hj (nodup_ix hN e1 (e ▸ hi))
      simp [this, e]
  · obtain ⟨w', z⟩ := I.cell y c e
    exact ⟨w', z.sameBut hs (cne y c e)⟩
  · obtain ⟨e, n, ne, nf, d⟩ := I.pin p hp
    exact ⟨(hs.2 p.1 ne).trans e, n, ne, nf, d⟩
  · refine (I.hok q o e).stay (fun c w' hc z => (hs.2 c ?_).trans z) (fun _ z => z) fun _ _ z => z
    rcases hc with hc | hc
    · rw [hc]; exact nl q o e
    · exact nl c _ hc
theorem psg_set {i : Nat} {x : Str} {pos' : Pos} (hN : X.N.Nodup) (hi : X.N[i]? = some x) (hx : Loc X.env.scope x) (he : PEg X e te) (hs : swapsWith e (some (.Name x pos')) pos.line X.env = pure false := by rfl) (hf : X.env.scope.names.lookup x = some .local := by rfl) :
    PSg X (.Assign [.Name x pos'] e pos) (tAsg te (gName i)) := by
  refine ⟨fun pins s σ H D I h => ?_⟩
  refine wpAny_Assign_Name (thn (he.run pins s σ H _ I h) fun v s1 ⟨g1, y, H1, I1, r1, q1⟩ => ?_) hs
  exact store_g I1 hN hi hf r1 fun s2 g2 I2 => ⟨g2.trans g1, _, H1, I2, q1⟩
theorem pgg_name {i : Nat} {x : Str} (hN : X.N.Nodup) (hi : X.N[i]? = some x) (hx : Loc X.env.scope x) (hf : X.env.scope.names.lookup x = some .local := by rfl) : PGg X (.Name x pos) (gName i) := by
  refine ⟨fun pins s σ H v u Q I r h => ?_⟩
  exact wpAny_assign_Name (store_g I hN hi hf r fun s' g' I' => ⟨g', _, H, I', h⟩)
theorem pgsg_nil : PGsg X [] gNil := by
  refine ⟨fun pins s σ H vs us Q I r h => ?_⟩
  obtain ⟨e, h⟩ := h
  subst e
  cases r
  exact assignInOrder_nil ⟨rfl, σ, H, I, h⟩
theorem pgsg_cons {es : List Expr} {t : TG} {u : TGs} (h1 : PGg X e t) (h2 : PGsg X es u)
    (hs : (assignEach (e :: es) X.env).map (·.2) = assign e X.env :: (assignEach es X.env).map (·.2) := by rfl) : PGsg X (e :: es) (gCons t u) := by
  refine ⟨fun pins s σ H vs us Q I r h => ?_⟩
  obtain ⟨v, vr, e1, h⟩ := h
  subst e1
  cases r with
  | cons r rr =>
    rw [hs]
    refine assignInOrder_cons (thn (h1.run pins s σ H _ _ _ I r h) fun _ s1 ⟨g1, σ1, H1, I1, q1⟩ => ?_)
    exact thn (h2.run pins s1 σ1 H1 _ _ Q I1 rr q1) fun _ _ ⟨g2, q⟩ => ⟨g2.trans g1, q⟩
theorem pgg_tup {es : List Expr} {k : Nat} {t : TGs} {n : Nat} (hc : X.calm = true) (h : PGsg X es t)
    (hn : (assignEach es X.env).length = n := by rfl) (hst : (assignEach es X.env).findIdx? (·.1) = none := by rfl) : PGg X (.Tuple es k pos) (gTup X.K n t) := by
  refine ⟨fun pins s σ H v u Q I r hw => ?_⟩
  obtain ⟨a, xs, e1, hq, hl, hw⟩ := hw
  subst e1
  cases r
  obtain ⟨its, rv, ht, hz⟩ := I.tuple hq
  refine assign_Tuple_tuple (I.ok.hd hc) ht (by simp [hn, ← hl, rv.length]) hst fun h' hx => ?_
  have I1 : Inv X pins σ H { s with heap := h' } := I.kept (t' := s.toks) fun b o e => hx b o (Nat.ne_of_lt (Heap.lt_size e)) e
  exact h.run pins _ σ H xs _ Q I1 (by simpa using rv) hw
end
end S
namespace S
open PySem PySem.Spec PyProof.Rows L2
/-- + of two numbers -/
def oAddI : R2 := oI0 fun i j => i + j
end S
namespace S
open PySem PySem.Spec PyProof.Rows L2 GenW
section
variable {X : Cx} {pins : List (Addr × Obj)} {σ : L2.St} {H H' : Hp} {s s' : Shared}
theorem inv_gens (I : Inv X pins σ H s) {g : Nat} {x : GenState} (hx : x.bare = true) : Inv X pins σ H (s.setGen g x) :=
  ⟨I.ok, I.os, allBare_setGen I.bare hx, I.base, I.loc, I.cell, I.free, I.freeC, I.pin, I.hok, I.len⟩
theorem stk_mem (I : Inv X pins σ H s) {q : Addr} (h : q ∉ X.fs) (h2 : q ≠ X.env.locals) : q ∉ frs X.stack := fun z => (List.mem_cons.mp (I.stkSub q z)).elim h2 h
/-- behind a run that promises for the n oldest objects -/
theorem inv_far {n : Nat} (I : Inv X pins σ H s) (hx : ∀ b, b ∉ X.ex) (hL : X.env.locals < n) (hcell : ∀ x c, X.env.cells.lookup x = some c → c < n ∧ c ∉ frs X.stack) (hp : ∀ p ∈ X.pn ++ pins, p.1 < n) (u : Un (frs X.stack) [] H H' (cut0 s.heap n) s'.heap) (os : s'.os = s.os) (hok : HOk X.prog X.w H' s'.heap) (hb : AllBare s'.gens) :
    Inv X pins σ H' s' := by
  have ne : ∀ q : Addr, q ∉ ([] : List Addr) := fun q z => by cases z
  have old : ∀ {q : Addr} {o : Obj}, X.s_0.heap.get? q = some o → q < n := fun {q o} e => Nat.lt_of_lt_of_le (Heap.lt_size e) (Nat.le_trans I.ok.above (Nat.le_of_lt hL))
  have nl : ∀ {q : Addr} {o : Obj}, X.s_0.heap.get? q = some o → q ≠ X.env.locals := fun {q o} e => Nat.ne_of_lt (Nat.lt_of_lt_of_le (Heap.lt_size e) I.ok.above)
  obtain ⟨m, ⟨oL, es, ep, hoL, hd, hr⟩, hl⟩ := id I.loc
  obtain ⟨sl, hoL'⟩ := u.any (cut0_at hL hoL) I.free (ne _)
  have cellK : ∀ x c, X.env.cells.lookup x = some c → ∀ v, s.heap.IsCell c v → s'.heap.IsCell c v := fun x c e v ⟨o, ho, hdd⟩ => ⟨o, u.keep c o (cut0_at (hcell x c e).1 ho) (I.freeC x c e) (hcell x c e).2 (ne _), hdd⟩
  refine ⟨I.ok, os.trans I.os, hb, ⟨fun q o e h1 h2 h3 => ?_, fun q o e h1 h2 h3 => ?_, fun q o e h1 h3 => ?_, fun q o e h3 => ?_, fun q xs e => u.tups q xs (I.base.tups q xs e), fun q o w e => u.frzs q o w (I.base.frzs q o w e), fun q ps e => ?_⟩, ⟨m, ⟨_, es, ep, hoL', hd, hr⟩, fun i x v e1 e2 e3 => ?_⟩, fun x c e => ?_, ?_, fun x c e => ?_, fun p h => ?_, hok, I.len⟩
  · exact u.keep q o (cut0_at (old e) (I.base.keep q o e h1 h2 h3)) (I.base.free q o e h1 h3) (stk_mem I h2 (nl e)) (ne _)
  · obtain ⟨sl1, e1⟩ := I.base.slot q o e h1 h2 h3
    obtain ⟨sl2, e2⟩ := u.any (cut0_at (old e) e1) (I.base.free q o e h1 h3) (ne _)
    exact ⟨sl2, e2⟩
  · obtain ⟨o', e1⟩ := I.base.there q o e h3
    exact u.free q o' (cut0_at (old e) e1) (I.base.free q o e h1 h3) (ne _)
  · obtain ⟨o', e1⟩ := I.base.there q o e h3
    exact u.there q o' (cut0_at (old e) e1) (ne _)
  · obtain ⟨m1, e1⟩ := I.base.tbls q ps e
    obtain ⟨m2, e2⟩ := u.tbls q _ e1
    exact ⟨m1 ++ m2, by rw [e2, Array.append_assoc]⟩
  · obtain ⟨u', r, l⟩ := hl i x v e1 e2 e3
    exact ⟨u', r, l.imp (fun z => z) fun ⟨k, c, e, z⟩ => ⟨k, c, e, cellK x c e _ z⟩⟩
  · obtain ⟨v, z⟩ := I.cell x c e
    exact ⟨v, cellK x c e v z⟩
  · exact u.free _ oL (cut0_at hL hoL) I.free (ne _)
  · obtain ⟨v, o, ho, _⟩ := I.cell x c e
    exact u.free c o (cut0_at (hcell x c e).1 ho) (I.freeC x c e) (ne _)
  · obtain ⟨k1, k2, k3, k4, k5⟩ := I.pin p h
    exact ⟨u.keep p.1 p.2 (cut0_at (hp p h) k1) k2 (stk_mem I k4 k3) (ne _), u.free p.1 p.2 (cut0_at (hp p h) k1) k2 (ne _), k3, k4, k5⟩
end
/-- a generator that a loop walks -/
abbrev TGenF := TurnK → (List V → Hp → Prop) → L2.St → Hp → Prop
structure PGenF (X : Cx) (k : Nat) (e : Expr) (tg : TGenF) : Prop where
  run : ∀ (pins : List (Addr × Obj)) (s : Shared) (σ : L2.St) (H : Hp) (Kc : TurnK) (Q : List V → Hp → Prop), Inv X pins σ H s → tg Kc Q σ H →
    wpAny (model X.prog X.w) X.A (eval e X.env) (fun u s' => ∃ H1 sc, Inv X pins σ H1 sc ∧ GMadeF X.prog X.w X.K X.mg X.base k X.stack H1 sc Kc Q u s') X.xe s
/-- o.m(), o an instance with slots -/
def tMethFS (K : Frag) (c : Str) (sp : SpF) (ta : TE) : TGenF := fun Kc Q σ H => ta σ H fun x H1 => match x with
  | .ref a => IsO K H1 c a (sp [.ref a] H1 Kc Q)
  | _ => False
theorem pgenF_meth0 {X : Cx} {k : Nat} {g : Addr} {sp : SpF} {c m : Str} {pos apos : Pos} {o : Expr} {ta : TE} {pl : Sem Bool} (hc : SlX.SCls X.K (He.ga X.K c)) (hm : Meth X.K (He.ga X.K c) m g) (F : GFF X.prog X.w X.K X.mg X.base k g sp) (hr : Room k X.A) (he : PE X o ta)
    (ht : eval (.Call (.Attribute o m apos) [] [] pos) X.env = (do
      let ov ← eval o X.env
      standAt apos.atName
      let (f, first) ← holding [ov] (getMethod ov m pl)
      callWith pos f first (backTo pos (starEach [] X.env)) (backToKw pos (keywordEach [] X.env))) := by rfl) :
    PGenF X k (.Call (.Attribute o m apos) [] [] pos) (tMethFS X.K c sp ta) := by
  refine ⟨fun pins s σ H Kc Q I h => ?_⟩
  refine PySem.W.methodCall_KW (pl := pl) (thn (he.run pins s σ H _ I h) fun u s1 ⟨x, H1, I1, rx, q⟩ => ?_) ht
  cases x <;> try exact q.elim
  cases rx
  obtain ⟨⟨dx, vs, hsl⟩, q⟩ := q
  refine SlX.getmethsl_ok I1 hsl hc hm ?_
  refine PySem.W.callWith_K0 (first := [.ref _]) I1.kIn hm.kp (wpAny_call (codeAny_mono (F.run X.A X.stack s1 H1 [.ref _] [.ref _] Kc Q hr I1.env0 (.cons rfl .nil) q) fun r s2 hq => ?_))
  cases r with
  | error e => exact False.elim hq
  | ok fl =>
    cases fl with
    | ret u => exact ⟨H1, s1, I1, hq⟩
    | next => exact False.elim hq
    | brk => exact False.elim hq
    | cont => exact False.elim hq
/-- the loop: W tells the slots by what was handed out -/
structure LpF (tg : TGenF) (g : TG) (tb : TS) (D : Ends) (σ : L2.St) (H : Hp) : Prop where
  ex : ∃ W : List V → L2.St → Prop, W [] σ ∧ tg (fun ys x H1 post => ∀ σ1, W ys σ1 → g x σ1 H1 fun σ2 H2 => tb { D with nx := fun σ3 H3 => W (ys ++ [x]) σ3 ∧ post H3, ct := fun σ3 H3 => W (ys ++ [x]) σ3 ∧ post H3, bk := D.nx } σ2 H2) (fun ys H1 => ∀ σ1, W ys σ1 → D.nx σ1 H1) σ H
def dForF (tg : TGenF) (g : TG) (tb : TS) : TS := fun D σ H => LpF tg g tb D σ H
theorem ps_forF {X : Cx} {k : Nat} {tgt iter : Expr} {body : List Stmt} {tg : TGenF} {g : TG} {tb : TS} {pos : Pos} (hp : PassesOwn (model X.prog X.w) X.A X.env X.xe) (hc : X.calm = true) (hi : PGenF X k iter tg) (hr : Room (k + 1) X.A) (hg : PGg X tgt g) (hb : PSsg X body tb) (hnc : ∀ x, X.env.cells.lookup x = none)
    (hst : X.stack = X.env :: X.outer := by rfl) (hfr : X.env.frame = some X.env.locals := by rfl) (hex : X.ex = [] := by rfl) (hs : ∀ x, foldedSetIterable iter X.env x = pure x := by intro _; rfl) : PS X (.For tgt iter body [] pos) (dForF tg g tb) := by
  refine ⟨fun pins s σ H D I h => ?_⟩
  obtain ⟨W, w0, h⟩ := h.ex
  refine wpAny_For (thn (hi.run pins s σ H _ _ I h) fun u s1 ⟨H1, sc, I1, hG⟩ => ?_) hs
  obtain ⟨a, gn, c, rfl, ha, hgen, hgs, hos, hbare, hlim, hkp, wake⟩ := hG
  refine wpAny_pyIter_gen hgen ?_
  have hx : ∀ b, b ∉ X.ex := fun b z => by rw [hex] at z; cases z
  have mF : ∀ q, q ∈ X.env.locals :: X.fs → q ∈ frs X.stack := fun q hq => by
    rw [hst]
    unfold frs
    rw [List.filterMap_cons, hfr]
    exact hq
  have hL : X.env.locals < sc.heap.objs.size := I1.lt
  have hcell : ∀ x c, X.env.cells.lookup x = some c → c < sc.heap.objs.size ∧ c ∉ frs X.stack := fun x c e => by rw [hnc] at e; cases e
  have hpn : ∀ p ∈ X.pn ++ pins, p.1 < sc.heap.objs.size := fun p hp => Heap.lt_size (I1.pin p hp).1
  have I2 : Inv X pins σ H1 s1 := I1.call' (ch := []) hos (Un.kept hkp) (I1.hok.kept hkp) hbare fun b z => by simp at z
  have hr1 : Room k X.A.in1 := hr.in1
  have hdp : X.A.depth < recursionLimit := by have := hr.dp; omega
  refine codeAny_forLoop_any (fun n s' => ∃ ys σ' H' gs, Inv X pins σ' H' s' ∧ W ys σ' ∧ s'.heap.IsGen a gn ∧ s'.gens[gn]? = some gs ∧
    gs.Goes (model X.prog X.w) X.A.in1 (REnF X.prog X.w X.stack sc.heap.objs.size (fun ys s H => ∃ σ, Inv X pins σ H s ∧ W ys σ) (fun ys H1 => ∀ σ1, W ys σ1 → D.nx σ1 H1))
      (YItF X.prog X.w X.base X.stack sc.heap.objs.size a gn (fun ys s H => ∃ σ, Inv X pins σ H s ∧ W ys σ) (fun ys x H1 post => ∀ σ1, W ys σ1 → g x σ1 H1 fun σ2 H2 => tb { D with nx := fun σ3 H3 => W (ys ++ [x]) σ3 ∧ post H3, ct := fun σ3 H3 => W (ys ++ [x]) σ3 ∧ post H3, bk := D.nx } σ2 H2)) n (.send .none) (s'.setGen gn .running)) ?_ sizeLine ?_
  · rintro n s3 ⟨ys, σ3, H3, gs, I3, w3, hg3, hgs3, hgo⟩
    have hgl : gn < s3.gens.size := (Array.getElem?_eq_some_iff.mp hgs3).1
    refine wpAny_gsz (n := gn + 1) hgl (next_genG (I3.ok.hd hc) I3.nolimit hdp hg3 hgs3 hgo (fun v s4 gs' hbr hy => ?_) (fun s4 hf h' hk => ?_) fun e s4 he => he.elim)
    · intro hsz
      obtain ⟨ys', x, H0, H4, gp, post, hn, rv, ⟨σ0, J0, w0'⟩, os4, b4, lim4, gen4, un4, hok4, hgp, ⟨ao, hao⟩, hk, hw⟩ := hy
      have sz4 : gn < (s4.setGen gn gs').gens.size := hsz
      have J1 : Inv X pins σ0 H4 s4 := inv_far J0 hx hL hcell hpn un4 os4 hok4 b4
      have J2 : Inv X pins σ0 H4 (s4.setGen gn gs') := inv_gens J1 hbr
      have J3 : Inv X (pins ++ gp) σ0 H4 (s4.setGen gn gs') := J2.pins_of fun p hp => by
        rcases List.mem_append.mp hp with z | z
        · exact J2.pin p (List.mem_append_right _ z)
        · obtain ⟨q1, q2, q3, q4⟩ := hgp p z
          exact ⟨q1, q2, fun e => q3 (mF _ (by rw [e]; exact List.mem_cons_self)), fun e => q3 (mF _ (List.mem_cons_of_mem _ e)), q4⟩
      obtain ⟨o, nm, qn, ho, hcls, hdat, hsl⟩ := id gen4
      refine go_of (n := "generator") (by exact ho) hcls hdat (by decide) ?_
      refine wpAny_passesOwn hp (thn (hg.run _ _ σ0 H4 x v _ J3 rv (hk σ0 w0')) fun _ s5 ⟨g5, σ5, H5, I5, q5⟩ => ?_)
      refine wpAny_passesOwn hp (thn (hb.run _ s5 σ5 H5 _ I5 q5) fun f s6 ⟨g6, q6⟩ => ?_)
      have gg : s6.gens = (s4.setGen gn gs').gens := g6.trans g5
      have again : ∀ {σ7 : L2.St} {H7 : Hp}, Inv X (pins ++ gp) σ7 H7 s6 → W (ys' ++ [x]) σ7 ∧ post H7 → ∃ m, m < n ∧ ∃ ys σ' H' gs, Inv X pins σ' H' s6 ∧ W ys σ' ∧ s6.heap.IsGen a gn ∧ s6.gens[gn]? = some gs ∧
          gs.Goes (model X.prog X.w) X.A.in1 (REnF X.prog X.w X.stack sc.heap.objs.size (fun ys s H => ∃ σ, Inv X pins σ H s ∧ W ys σ) (fun ys H1 => ∀ σ1, W ys σ1 → D.nx σ1 H1))
            (YItF X.prog X.w X.base X.stack sc.heap.objs.size a gn (fun ys s H => ∃ σ, Inv X pins σ H s ∧ W ys σ) (fun ys x H1 post => ∀ σ1, W ys σ1 → g x σ1 H1 fun σ2 H2 => tb { D with nx := fun σ3 H3 => W (ys ++ [x]) σ3 ∧ post H3, ct := fun σ3 H3 => W (ys ++ [x]) σ3 ∧ post H3, bk := D.nx } σ2 H2)) m (.send .none) (s6.setGen gn .running) := by
        intro σ7 H7 I7 ⟨w7, p7⟩
        have I8 : Inv X pins σ7 H7 s6 := I7.unpinned
        have I9 : Inv X pins σ7 H7 (s6.setGen gn .running) := inv_gens I8 rfl
        have pin : ∀ p ∈ gp, s6.heap.get? p.1 = some p.2 ∧ H7 p.1 = none := fun p hp => by
          obtain ⟨k1, k2, _⟩ := I7.pin p (List.mem_append_right _ (List.mem_append_right _ hp))
          exact ⟨k1, k2⟩
        have e0 := I9.env0
        have wk : Wok0 X.prog X.w X.base X.stack gp (s6.setGen gn .running) H7 := ⟨e0.bare, e0.bs, e0.bsz, e0.funs, e0.frf, e0.hok, pin⟩
        have fin := hw (s6.setGen gn .running) H7 wk ⟨σ7, I9, w7⟩ p7
        cases n with
        | zero => exact fin.elim
        | succ m =>
          refine ⟨m, Nat.lt_succ_self _, ys' ++ [x], σ7, H7, gs', I8, w7, ?_, ?_, fin⟩
          · have k1 := (pin (a, ao) hao).1
            have k2 := (hgp (a, ao) hao).1
            have k2 : s4.heap.get? a = some ao := k2
            rw [ho] at k2
            cases k2
            exact ⟨_, nm, qn, k1, hcls, hdat, hsl⟩
          · rw [gg]
            exact setGen_at (by rw [setGen_size] at sz4; exact sz4)
      cases f with
      | next => obtain ⟨σ7, H7, I7, n7⟩ := q6; exact again I7 n7
      | cont => obtain ⟨σ7, H7, I7, n7⟩ := q6; exact again I7 n7
      | brk => obtain ⟨σ7, H7, I7, q7⟩ := q6; exact ⟨σ7, H7, I7.unpinned, q7⟩
      | ret v => obtain ⟨x7, σ7, H7, I7, r7, q7⟩ := q6; exact ⟨x7, σ7, H7, I7.unpinned, r7, q7⟩
    · intro hsz
      obtain ⟨ys', H0, H4, ⟨σ0, J0, w0'⟩, os4, b4, un4, hok4, hQ⟩ := hf
      have J1 : Inv X pins σ0 H4 s4 := inv_far J0 hx hL hcell hpn un4 os4 hok4 b4
      have J2 : Inv X pins σ0 H4 (s4.setGen gn .finished) := inv_gens J1 rfl
      exact wpAny_execs_nil ⟨σ0, H4, J2.kept (h' := h') (t' := s4.toks) hk, hQ σ0 w0'⟩
  · refine ⟨[], σ, H1, .fresh c, I2, w0, hgen, hgs, rfl, ?_⟩
    have I3 : Inv X pins σ H1 (s1.setGen gn .running) := inv_gens I2 rfl
    refine wake X.A.in1 _ (s1.setGen gn .running) hr1 I1.ok.frames ?_ rfl rfl ⟨σ, I3, w0⟩
    have e0 := I3.env0
    exact ⟨e0.frames, e0.mod, e0.bs, e0.bsz, e0.funs, e0.frf, e0.hok, e0.bare⟩
end S
namespace S
open PySem PySem.Spec PyProof.Rows L2
/-- the turns of range(i, j, c) -/
structure RngS (i j c : Int) (k : Nat → Prop) : Prop where
  ex : ∃ n, RgC i j c n ∧ k n
theorem RngS.up {j c : Int} {k : Nat → Prop} (c1 : 1 ≤ c) (c2 : c < 1000000) (j0 : 0 ≤ j) (j1 : j < 2 ^ 60) (q : k ((j + c - 1) / c).toNat) : RngS 0 j c k := by
  refine ⟨_, ⟨by omega, by omega, ?_, ?_⟩, q⟩
  · unfold Builtin.Range.small
    have e := rangeSize_pos c1 j0
    have h1 : (j + c - 1) / c ≤ j + c - 1 := Int.ediv_le_self c (by omega)
    have h0 : 0 ≤ (j + c - 1) / c := Int.ediv_nonneg (by omega) (by omega)
    rw [e]
    simp only [Builtin.Range.rangeFitsLong, Bool.and_eq_true, Bool.or_eq_true, decide_eq_true_eq, beq_iff_eq]
    have c0 : c > 0 := by omega
    simp only [c0, if_true]
    refine ⟨by omega, .inr ?_⟩
    rw [Bool.and_eq_true, decide_eq_true_eq, decide_eq_true_eq]
    omega
  · rw [rangeSize_pos c1 j0]
    exact (Int.toNat_of_nonneg (Int.ediv_nonneg (by omega) (by omega))).symm
def iR3S (vs : List V) (H : Hp) (R : It → Hp → Prop) : Prop := match vs with
  | [.int i, .int j, .int c] => RngS i j c fun n => R (Itc i c n) H
  | _ => False
def iRngS (ta : TA) : TI := fun σ H R => ta σ H fun vs H1 => iR3S vs H1 R
theorem iR3S_eq {R : It → Hp → Prop} : (fun (vs : List V) (H : Hp) => iR3S vs H R) = fun vs H => ∃ (i j c : Int) (n : Nat), vs = [.int i, .int j, .int c] ∧ RgC i j c n ∧ R (Itc i c n) H := by
  funext vs H
  refine propext ⟨fun q => ?_, fun ⟨i, j, c, n, e, h, q⟩ => by subst e; exact ⟨n, h, q⟩⟩
  match vs, q with
  | [.int i, .int j, .int c], ⟨n, h, q⟩ => exact ⟨i, j, c, n, rfl, h, q⟩
theorem pi_rngS {X : Cx} {tg a b c : Expr} {ta : TA} {p pos : Pos} (hg : Gl X "range") (hm : X.mg "range" = none) (ha : PA X [a, b, c] ta)
    (hs : starEach [a, b, c] X.env = (false, eval a X.env) :: starEach [b, c] X.env := by rfl) (hpl : (backTo pos (starEach [b, c] X.env)).any (·.1) = false := by rfl) :
    PI X tg (.Call (.Name "range" p) [a, b, c] [] pos) (iRngS ta) := by
  have h := pi_range3 (tg := tg) (p := p) hg hm ha hs hpl
  refine ⟨fun pins s σ H R I q => h.run pins s σ H R I ?_⟩
  have q : ta σ H (fun vs H1 => iR3S vs H1 R) := q
  rw [iR3S_eq] at q
  exact q
theorem for_rngS {c : Int} {n : Nat} {g : TG} {tb : TS} {D : Ends} {σ : L2.St} {H : Hp} (Pv : Nat → L2.St → Hp → Prop) (h0 : Pv 0 σ H)
    (hs : ∀ (i : Nat) σ H, i < n → Pv i σ H → g (.int ((i : Nat) * c)) σ H fun σ2 H2 => tb { D with nx := Pv (i + 1), ct := Pv (i + 1), bk := D.nx } σ2 H2) (hd : ∀ σ H, Pv n σ H → D.nx σ H) :
    LoopR D g tb σ (Itc 0 c n) H := by
  refine L2.for_rangeC (lo := 0) Pv h0 (fun i σ H hi q => ?_) hd
  have z := hs i σ H hi q
  rw [Int.zero_add]; exact z
end S
namespace S
open PySem PySem.Spec PyProof.Rows L2
open Sem (wp)
/-! ### what is gone stays gone -/
structure DeadH (h h' : Heap) : Prop where
  sz : h.objs.size ≤ h'.objs.size
  no : ∀ a, a < h.objs.size → h.get? a = none → h'.get? a = none
theorem DeadH.refl (h : Heap) : DeadH h h := ⟨Nat.le_refl _, fun _ _ e => e⟩
theorem DeadH.trans {a b c : Heap} (h : DeadH a b) (k : DeadH b c) : DeadH a c := ⟨Nat.le_trans h.sz k.sz, fun x hx e => k.no x (Nat.lt_of_lt_of_le hx h.sz) (h.no x hx e)⟩
theorem dead_push (h : Heap) (o : Obj) : DeadH h (h.push o) := by
  refine ⟨by rw [Heap.size_push]; exact Nat.le_succ _, fun a ha e => ?_⟩
  rw [← e]
  obtain ⟨objs, l⟩ := h
  unfold Heap.get? Heap.push
  have ha : a < objs.size := ha
  dsimp only
  rw [Array.getElem?_push_lt ha]
  simp [ha]
theorem dead_update {h : Heap} {b : Addr} {f : Obj → Obj} (hb : (h.get? b).isSome) : DeadH h (h.update b f) := by
  have hsz : (h.update b f).objs.size = h.objs.size := by
    obtain ⟨objs, l⟩ := h
    show (objs.modify b f).size = _
    simp
  refine ⟨by rw [hsz]; exact Nat.le_refl _, fun a ha e => ?_⟩
  by_cases hab : a = b
  · rw [hab] at e
    rw [e] at hb
    cases hb
  · exact (Heap.get?_update_other _ _ (Ne.symm hab)).trans e
theorem runs_dead {M : Model} {Γ : PySem.Ctx} {p : Pos} {t : Sem PySem.Fin} {fs : List Frame} {s s' : Shared} {e : End} (h : Runs M Γ p t fs s e s') : DeadH s.heap s'.heap := by
  induction h <;> first
    | exact DeadH.refl _
    | (rename_i ih; exact ih)
    | (rename_i hb _ ih; exact (dead_update hb).trans ih)
    | (rename_i ih; exact (dead_push _ _).trans ih)
    | (rename_i ih1 ih2; exact DeadH.trans ih1 ih2)
    | (rename_i ih1 _ ih2; exact DeadH.trans ih1 ih2)
    | (rename_i ih1 _ _ ih2; exact DeadH.trans ih1 ih2)
theorem wakes_dead {M : Model} {Γ : PySem.Ctx} {p : Pos} {g : Nat} {r : Resume} {s s' : Shared} {res : GenResult} (h : Wakes M Γ p g r s res s') : DeadH s.heap s'.heap := by
  unfold Wakes at h
  split at h
  · exact h.elim
  · split at h
    · obtain ⟨_, _, hr, _, _, rfl⟩ := h
      have d := runs_dead hr
      exact d
    · rw [h.2]; exact DeadH.refl _
    · rw [h.2]; exact DeadH.refl _
  · obtain ⟨_, _, hr, _, _, rfl⟩ := h
    have d := runs_dead hr
    exact d
  · rw [h.2]; exact DeadH.refl _
  · rw [h.2]; exact DeadH.refl _
theorem wp_dead {α : Type} (M : Model) (Γ : PySem.Ctx) (h0 : Heap) (t : Sem α) : ∀ (Q : α → Pos → Shared → Prop) (E : Value → Pos → Shared → Prop) (p : Pos) (s : Shared), DeadH h0 s.heap → wp M Γ t Q E p s →
    wp M Γ t (fun a q z => DeadH h0 z.heap ∧ Q a q z) (fun x q z => DeadH h0 z.heap ∧ E x q z) p s := by
  induction t with
  | pure a => exact fun Q E p s d h => ⟨d, h⟩
  | raise x => exact fun Q E p s d h => ⟨d, h⟩
  | unsupported _ => exact fun Q E p s _ h => h
  | finish _ => exact fun Q E p s _ h => h
  | rule _ k ih => exact fun Q E p s d h => ih () Q E p s d h
  | «at» q k ih => exact fun Q E p s d h => ih () Q E q s d h
  | load a _ k ih => exact fun Q E p s d ⟨o, ho, h⟩ => ⟨o, ho, ih o Q E p s d h⟩
  | update a _ f k ih => exact fun Q E p s d h => ⟨h.1, ih () Q E p _ (d.trans (dead_update (by obtain ⟨h1, _⟩ := h; first | exact h1 | (obtain ⟨o, ho⟩ := h1; rw [ho]; rfl)))) h.2⟩
  | loadIfAlive a k ih => exact fun Q E p s d h => ih _ Q E p s d h
  | point _ k ih => exact fun Q E p s d h => ih () Q E p s d h
  | register _ _ => exact fun Q E p s _ h => h
  | alloc o k ih => exact fun Q E p s d h => ih _ Q E p _ (d.trans (dead_push _ _)) h
  | fresh k ih => exact fun Q E p s d h => ih _ Q E p _ d h
  | ask k ih => exact fun Q E p s d h => ih _ Q E p s d h
  | choose _ _ k ih => exact fun Q E p s d h => ⟨h.1, ih _ Q E p _ d h.2⟩
  | os _ _ k ih => exact fun Q E p s d h => ih _ Q E p _ d h
  | call _ _ _ _ k ih => exact fun Q E p s d ⟨r, z, hr, h⟩ => ⟨r, z, hr, ih r Q E p z (d.trans (runs_dead hr)) h⟩
  | handled _ k ih => exact fun Q E p s d h => ih _ Q E p s d h
  | genState _ k ih => exact fun Q E p s d ⟨st, hs, h⟩ => ⟨st, hs, ih _ Q E p s d h⟩
  | newGen _ k ih => exact fun Q E p s d h => ih _ Q E p _ d h
  | resume _ _ _ k ih => exact fun Q E p s d ⟨r, z, hw, h⟩ => ⟨r, z, hw, ih r Q E p z (d.trans (wakes_dead hw)) h⟩
  | yield _ _ _ _ => exact fun Q E p s _ h => h
  | stack k ih => exact fun Q E p s d h => ih _ Q E p s d h
  | fork _ _ => exact fun Q E p s _ h => h
  | thread k ih => exact fun Q E p s d h => ih _ Q E p s d h
  | await _ _ _ _ _ => exact fun Q E p s _ h => h
/-- what is said of the run besides -/
theorem wpAny_dead {α : Type} {M : Model} {A : Around} {s : Shared} {t : Sem α} {Q : α → Shared → Prop} {E : Value → Shared → Prop} (h : wpAny M A t (fun a s' => DeadH s.heap s'.heap → Q a s') E s) : wpAny M A t Q E s :=
  wpAny_mono (fun Γ p hΓ => wp_dead M Γ s.heap t _ _ p s (DeadH.refl _) (h Γ p hΓ) : wpAny M A t (fun a s' => DeadH s.heap s'.heap ∧ (DeadH s.heap s'.heap → Q a s')) (fun x s' => DeadH s.heap s'.heap ∧ E x s') s) (fun _ _ z => z.2 z.1) fun _ _ z => z.2
/-! ### a tuple's iterator -/
abbrev tupIt (a : Addr) (i : Nat) : Obj := { cls := .type "tuple_iterator", data := .fields #[.ref a, .int i 0] }
def TItO (a it : Addr) : HO := .ext fun h => h.get? it = some (tupIt a 0)
theorem titO_ok {P : Program} {w : World} {H : Hp} {h : Heap} {a it : Addr} (e : h.get? it = some (tupIt a 0)) : ObjOk P w H h it (TItO a it) := ⟨e, ⟨_, e⟩, fun h1 h2 q k => k _ q⟩
/-- iter(the tuple at p) -/
structure IterT (K : Frag) (H : Hp) (p : Addr) (Q : V → Hp → Prop) : Prop where
  ex : ∃ xs, SqT K H p xs ∧ ∀ it, H it = none → Q (.ref it) (upd H it (TItO p it))
def cIter (K : Frag) : List V → Hp → VK → Prop := fun xs H Q => match xs with
  | [.ref p] => IterT K H p Q
  | _ => False
theorem c_iter {X : Cx} : CallR X (.builtin "iter") (cIter X.K) := by
  intro pins s σ H xs us Q I r h
  match xs, h with
  | [.ref p], ⟨⟨ys, hx, q⟩⟩ =>
    obtain ⟨u, rfl, ru⟩ := r.one
    cases ru
    obtain ⟨its, rv, ht, hz⟩ := I.tuple hx
    refine Calls.call_function_entry (by decide +kernel) (by decide +kernel) PySem.W.kdk_entry_iter (PySem.W.kdk_args_iter _) ?_
    unfold Builtin.«iter»
    refine wpAny_bind (m := someArgs "iter" 1 2 _) (wpAny_of_eq (a := [Value.ref p]) (by first | rfl | kernel_rfl!) ?_)
    show wpAny _ _ (pyIter (.ref p) >>= _) _ _ _
    refine wpAny_bind (wpAny_pyIter_tuple (show s.heap.IsTuple p its.toArray from ht) ?_)
    refine wpAny_pure ⟨_, rfl, ?_⟩
    exact ⟨.ref s.heap.objs.size, _, I.laid (t' := s.toks) (fun b u e => Heap.get?_push_of_some _ e) (Nat.le_refl _) (titO_ok (Heap.get?_push_size _ rfl)), rfl, q _ (I.hok.fresh (Nat.le_refl _))⟩
/-- forgotten -/
def dropH (H : Hp) (a : Addr) : Hp := fun b => if b = a then none else H b
theorem dropH_same {H : Hp} {a : Addr} : dropH H a a = none := by unfold dropH; rw [if_pos rfl]
theorem dropH_ne {H : Hp} {a b : Addr} (h : b ≠ a) : dropH H a b = H b := by unfold dropH; rw [if_neg h]
theorem inv_drop {X : Cx} {pins : List (Addr × Obj)} {σ : L2.St} {H : Hp} {s : Shared} {a t : Addr} (I : Inv X pins σ H s) (h : H a = some (TItO t a)) : Inv X pins σ (dropH H a) s := by
  have keep : ∀ b u, H b = some u → (∀ φ, u ≠ .ext φ) → dropH H a b = some u := fun b u e n => by
    rw [dropH_ne fun z => by rw [z, h] at e; exact n _ (Option.some.inj e).symm]
    exact e
  have non : ∀ b, H b = none → dropH H a b = none := fun b e => by
    by_cases hb : b = a
    · rw [hb, dropH_same]
    · rw [dropH_ne hb]; exact e
  refine I.un (t' := s.toks) (H' := dropH H a) (h' := s.heap) ⟨fun _ _ e _ _ _ => e, fun _ o e _ _ _ => ⟨o.slots, e⟩, fun b _ _ z _ => non b z, fun _ o e _ => ⟨o, e⟩, fun b xs z => keep b _ z fun _ w => (nomatch w), fun b o x z => keep b _ z fun _ w => (nomatch w), fun b ps z => ⟨#[], by rw [keep b _ z fun _ w => (nomatch w)]; simp⟩⟩ ?_
  intro b u e
  have hb : b ≠ a := fun z => by rw [z, dropH_same] at e; cases e
  rw [dropH_ne hb] at e
  exact (I.hok b u e).stay (fun _ _ _ z => z) (fun c z => keep c _ z fun _ w => (nomatch w)) fun c xs z => keep c _ z fun _ w => (nomatch w)
theorem st_drop {K : Frag} {H : Hp} {a it t : Addr} {xs : List V} (h : SqT K H a xs) (hi : H it = some (TItO t it)) : SqT K (dropH H it) a xs := by
  rcases h with (h | ⟨o, h⟩) | h
  · exact .inl (.inl (by rw [dropH_ne fun z => by rw [z, hi] at h; cases h]; exact h))
  · exact .inl (.inr ⟨o, by rw [dropH_ne fun z => by rw [z, hi] at h; cases h]; exact h⟩)
  · exact .inr h
theorem same_drop {H H' : Hp} {it : Addr} (e : Same H H') (n : H it = none) : Same H (dropH H' it) := fun b o h => by
  rw [dropH_ne (ne_of_none h n)]
  exact e b o h
/-- the iterator that an own __iter__ handed out, by a run of it from a heap -/
structure OIt (K : Frag) (H : Hp) (R : Addr → List V → Hp → Prop) (v : V) (H2 : Hp) : Prop where
  ex : ∃ it t xs, v = .ref it ∧ H it = none ∧ H2 it = some (TItO t it) ∧ SqT K H2 t xs ∧ R t xs (dropH H2 it)
theorem OIt.of {K : Frag} {H H2 : Hp} {R : Addr → List V → Hp → Prop} {it t : Addr} {xs : List V} (n : H it = none) (h : H2 it = some (TItO t it)) (hx : SqT K H2 t xs) (q : R t xs (dropH H2 it)) : OIt K H R (.ref it) H2 := ⟨it, t, xs, rfl, n, h, hx, q⟩
section
variable {X : Cx} {k : Nat} {g : Addr} {sp : Sp} {c : Str} {ups fs : List Str} {a : Addr}
/-- the iterator stands beyond all that stood -/
theorem run_iter {pins : List (Addr × Obj)} {σ : L2.St} {H : Hp} {s : Shared} {R : Addr → List V → Hp → Prop} {A : Around} {Q : Value → Shared → Prop} {E : Value → Shared → Prop} (F : FnR X.prog X.w X.K X.mg X.base (L2.CX X.prog X.w) k g sp) (hr : Room k A) (hA : A.frames = X.A.frames) (I : Inv X pins σ H s)
    (h : sp [.ref a] H (OIt X.K H R) E0) (q : ∀ it t xs H2 s2, s.heap.objs.size ≤ it → s2.heap.get? it = some (tupIt t 0) → Inv X pins σ (dropH H2 it) s2 → SqT X.K (dropH H2 it) t xs → R t xs (dropH H2 it) → Q (.ref it) s2) :
    wpAny (model X.prog X.w) A (call (.ref g) [.ref a]) Q E s := by
  have e0 : Env0 X.prog X.w X.K X.mg X.base A X.stack s H := by
    have e := I.env0
    exact ⟨by rw [hA]; exact e.frames, e.mod, e.bs, e.bsz, e.funs, e.frf, e.hok, e.bare⟩
  refine wpAny_dead (wpAny_call (codeAny_mono (F A X.stack s H [.ref a] [.ref a] _ E0 hr e0 (.cons rfl .nil) h) fun r s' hq => ?_))
  cases r with
  | error er =>
    obtain ⟨_, _, _, _, _, _, _, _, _, _, _, _, z⟩ := hq
    exact z.elim
  | ok fl =>
    cases fl with
    | next => exact False.elim hq
    | brk => exact False.elim hq
    | cont => exact False.elim hq
    | ret u =>
      intro dd
      have I0 := I.after hq
      obtain ⟨v, H2, os, bare, un, hok, rv, ⟨it, t, xs, rfl, hn, hi, hx, qq⟩⟩ := hq
      cases rv
      have hok2 : s'.heap.get? it = some (tupIt t 0) := (hok it _ hi).1
      have ge : s.heap.objs.size ≤ it := by
        refine Nat.le_of_not_lt fun hlt => ?_
        cases e : s.heap.get? it with
        | none => rw [dd.no it hlt e] at hok2; cases hok2
        | some o => rw [un.free it o e hn (by simp)] at hi; cases hi
      obtain ⟨hh, gg, d', t', os'⟩ := s'
      obtain rfl : os' = s.os := os
      have I2 : Inv X pins σ H2 { s with heap := hh, gens := gg, drawn := d', toks := t' } := I.call (h' := hh) (g' := gg) (d' := d') (t' := t') (ch := []) un hok bare fun b z => absurd z (by simp)
      exact q it t xs H2 _ ge hok2 (inv_drop I2 hi) (st_drop hx hi) qq
theorem owit_tup {M : Model} {A : Around} {Q : Value → Shared → Prop} {E : Value → Shared → Prop} {s : Shared} {it t : Addr} (h : s.heap.get? it = some (tupIt t 0)) (q : Q (.ref it) s) : PySem.W.OwitIt M A Q E (.ref it) s := by
  unfold PySem.W.OwitIt
  exact wpAny_specialOf (show s.TypeIs (.ref it) "tuple_iterator" from ⟨_, h, rfl⟩) F.slot_tuple_iterator_next.lookup q
/-- for .. in o -/
structure OwnI (K : Frag) (c : Str) (sp : Sp) (H : Hp) (a : Addr) (R : It → Hp → Prop) : Prop where
  ex : (∃ dx as, H a = some (.ins (He.ga K c) dx as)) ∧ sp [.ref a] H (OIt K H fun t _ H2 => R (Itt K t) H2) E0
theorem OwnI.of {K : Frag} {H : Hp} {R : It → Hp → Prop} {dx : Addr} {as : List (Str × V)} (h : H a = some (.ins (He.ga K c) dx as)) (q : sp [.ref a] H (OIt K H fun t _ H2 => R (Itt K t) H2) E0) : OwnI K c sp H a R := ⟨⟨dx, as, h⟩, q⟩
/-- over a list, a tuple, an instance of c -/
structure WalkI (K : Frag) (c : Str) (sp : Sp) (H : Hp) (a : Addr) (R : It → Hp → Prop) : Prop where
  ex : Walk K H a R ∨ OwnI K c sp H a R
def iOwn (K : Frag) (c : Str) (sp : Sp) (te : TE) : TI := fun σ H R => te σ H fun x H1 => match x with
  | .ref a => WalkI K c sp H1 a R
  | _ => False
theorem pi_own {e : Expr} {tg : Expr} {te : TE} (D : DF X.K c ups fs) (hm : Meth X.K (He.ga X.K c) "__iter__" g) (F : FnR X.prog X.w X.K X.mg X.base (L2.CX X.prog X.w) k g sp) (hr : Room k X.A) (he : PE X e te) : PI X tg e (iOwn X.K c sp te) := by
  refine ⟨fun pins s σ H R I h => ?_⟩
  refine thn (he.run pins s σ H _ I h) fun v s1 ⟨x, H1, I1, r1, q1⟩ => ?_
  cases x <;> try exact q1.elim
  rename_i a
  rcases q1.ex with q1 | q1
  · cases r1
    rcases q1.ex with ⟨⟨xs, hq⟩, q⟩ | ⟨⟨xs, hq⟩, q⟩
    · obtain ⟨its, rv, p, hz⟩ := I1.list hq
      refine wpAny_pyIter_list p.isList ?_
      refine ⟨s1.heap.objs.size, [s1.heap.objs.size], _, _, H1, rfl, I1.kept (t' := s1.toks) fun b o e => Heap.get?_push_of_some _ e, turn_list _ _, ⟨_, Heap.get?_push_size _ rfl, rfl, rfl⟩, fun b hb => ?_, q⟩
      have e : b = s1.heap.objs.size := by simpa using hb
      subst e
      exact I1.fpOk (Nat.le_refl _) (I1.hok.fresh (Nat.le_refl _))
    · obtain ⟨its, rv, p, hz⟩ := I1.tuple hq
      refine wpAny_pyIter_tuple (show s1.heap.IsTuple _ its.toArray from p) ?_
      refine ⟨s1.heap.objs.size, [s1.heap.objs.size], _, _, H1, rfl, I1.kept (t' := s1.toks) fun b o e => Heap.get?_push_of_some _ e, turn_tuple _ _, ⟨_, Heap.get?_push_size _ rfl, rfl, rfl⟩, fun b hb => ?_, q⟩
      have e : b = s1.heap.objs.size := by simpa using hb
      subst e
      exact I1.fpOk (Nat.le_refl _) (I1.hok.fresh (Nat.le_refl _))
  · cases r1
    obtain ⟨⟨dx, as, ha⟩, q⟩ := q1.ex
    obtain ⟨mA, J, _⟩ := ins_get I1.hok ha
    obtain ⟨od, J, _⟩ := J.look
    obtain ⟨m, hF⟩ := I1.fr
    refine PySem.W.owit_iter hF I1.ok.mod.kin J hm.at_ hm.fn ?_
    refine run_iter F hr rfl I1 q fun it t xs H2 s2 ge hi I2 hx qq => owit_tup hi ?_
    refine ⟨it, [it], _, _, dropH H2 it, rfl, I2, turn_tuple _ _, ⟨_, hi, rfl, rfl⟩, fun b hb => ?_, qq⟩
    have e : b = it := by simpa using hb
    subst e
    exact I1.fpOk ge dropH_same
end
end S
namespace S
open PySem PySem.Spec PyProof.Rows L2
open Sem (wp)
/-- a class with an own __iter__, without __len__ and __length_hint__ -/
structure ItD (K : Frag) (c : Str) (g : Addr) : Prop where
  it : Meth K (He.ga K c) "__iter__" g
  nolen : PySem.W.findIn K (.ref (He.ga K c)) "__len__" = some none
  nohint : PySem.W.findIn K (.ref (He.ga K c)) "__length_hint__" = some none
section
variable {X : Cx} {k : Nat} {g : Addr} {sp : Sp} {c : Str} {ups fs : List Str} {a : Addr}
theorem own_hintD {M : Model} {A : Around} {E : Value → Shared → Prop} {s : Shared} {Q : Bool → Shared → Prop} {K : PySem.W.Frag} {ox : Obj} {od : Option Obj} (hc : ItD K c g) (hK : K.In s.heap) (J : PySem.W.InstAt s.heap a ox (He.ga K c) od) (h : Q true s) :
    wpAny M A (Builtin.List.listLengthHint (.ref a)) Q E s := by
  unfold Builtin.List.listLengthHint
  refine wpAny_bind (wpAny_bind (J.type.here ((PySem.W.looks_findIn hK hc.nolen).here ?_)))
  refine PySem.W.KFB.if_not rfl ?_
  refine PySem.W.KFB.if_not rfl ?_
  refine wpAny_bind (wpAny_bind (J.type.here ((PySem.W.looks_findIn hK hc.nohint).here ?_)))
  exact wpAny_pure h
theorem tup_loop1 {pins : List (Addr × Obj)} {σ : L2.St} {A1 : Around} {Rs : Result → Shared → Prop} {q it t : Addr} {xs : List V} {H : Hp} (hA : A1.handled = none) (hf : FpOk X pins H it) (hx : SqT X.K H t xs) (hq0 : H q = some (.lst []))
    (hdone : ∀ s, Inv X pins σ (upd H q (.lst xs)) s → Rs (.ok (.ret .none)) s) :
    ∀ (m i : Nat) (s : Shared), i + m = xs.length → Inv X pins σ (upd H q (.lst (xs.take i))) s → s.heap.IsTupleIter it t i → codeAny (model X.prog X.w) A1 (.builtin "list.extend.loop" ⟨[.ref q, .ref it, .none], []⟩) Rs s := by
  intro m
  have hne : q ≠ it := fun z => by rw [z, hf.1] at hq0; cases hq0
  have hf2 : ∀ i, FpOk X pins (upd H q (.lst (xs.take i))) it := fun i => by
    obtain ⟨f0, f1, f2, f3, f4, f5⟩ := hf
    exact ⟨by rw [upd_ne (Ne.symm hne)]; exact f0, f1, f2, f3, f4, f5⟩
  have hx2 : ∀ i, SqT X.K (upd H q (.lst (xs.take i))) t xs := fun i => (SameX.upd (st := q) (H := H)).tup hx hq0
  induction m with
  | zero =>
    intro i s hi I st
    refine codeAny_builtin PySem.F.entry_extend_loop ?_
    rw [Around.under_plainId PySem.F.plain_extend_loop _]
    show wpAny _ A1.in1 (pyNext (.ref it) >>= _) _ _ s
    obtain ⟨its, rv, p, hz⟩ := I.tuple (hx2 i)
    have hl := rv.length
    obtain ⟨f0, f1, f2, f3, f4, f5⟩ := hf2 i
    refine wpAny_bind (wpAny_pyNext_tuple_end hA st (show s.heap.IsTuple t its.toArray from p) (by simp; omega) fun h' eb => ?_)
    have I1 : Inv X pins σ _ { s with heap := h' } := I.turned (t' := s.toks) (fun b o hb e => eb b o hb e) f0 f1 f3 f4 f5
    have e : xs.take i = xs := List.take_of_length_le (by omega)
    rw [e] at I1
    exact wpAny_pure (hdone _ I1)
  | succ m ih =>
    intro i s hi I st
    refine codeAny_builtin PySem.F.entry_extend_loop ?_
    rw [Around.under_plainId PySem.F.plain_extend_loop _]
    show wpAny _ A1.in1 (pyNext (.ref it) >>= _) _ _ s
    obtain ⟨its, rv, p, hz⟩ := I.tuple (hx2 i)
    have hl := rv.length
    obtain ⟨f0, f1, f2, f3, f4, f5⟩ := hf2 i
    obtain ⟨x, hxi⟩ : ∃ x, xs[i]? = some x := ⟨xs[i]'(by omega), List.getElem?_eq_getElem (by omega)⟩
    obtain ⟨u, hu, ru⟩ := rv.get hxi
    refine wpAny_bind (wpAny_pyNext_tuple_item st (show s.heap.IsTuple t its.toArray from p) (x := u) (by simpa using hu) fun h' st' sb => ?_)
    have I1 : Inv X pins σ _ { s with heap := h' } := I.turned (t' := s.toks) (fun b o hb e => (sb.2 b hb).trans e) f0 f1 f3 f4 f5
    show wpAny _ A1.in1 (updateSeq q (·.push u) >>= _) _ _ _
    obtain ⟨z, its2, k2, r2, hl2, e⟩ := I1.lstM (l := q) upd_same
    have hlen := r2.length
    have hlx : xs.length ≤ sizeLine := hz
    rw [List.length_take] at hlen
    refine wpAny_bind (wpAny_updateSeq e rfl (wpAny_pure ⟨plainId_quiet PySem.F.plain_extend_loop _, ?_⟩) (by rw [List.size_toArray]; omega) (by show (its2.toArray.push u).size ≤ sizeLine + 1; rw [Array.size_push, List.size_toArray]; omega))
    have I2 := I1.lset (f := (·.push u)) (its' := its2 ++ [u]) (ys := xs.take i ++ [x]) (t' := s.toks) upd_same e (by simp) (r2.append (.cons ru .nil)) (by rw [List.length_append, List.length_singleton, List.length_take]; omega)
    rw [upd_upd] at I2
    have ex : xs.take i ++ [x] = xs.take (i + 1) := by rw [List.take_add_one, hxi]; rfl
    rw [ex] at I2
    refine ih (i + 1) _ (by omega) I2 ?_
    obtain ⟨o, eo, cc, dd⟩ := st'
    exact ⟨o, (Heap.get?_update_other _ _ hne).trans eo, cc, dd⟩
/-- list(o) -/
structure ListO (K : Frag) (c : Str) (sp : Sp) (H : Hp) (a : Addr) (Q : VK) : Prop where
  ex : (∃ dx as, H a = some (.ins (He.ga K c) dx as)) ∧ ∀ q, H q = none → sp [.ref a] (upd H q (.lst [])) (OIt K (upd H q (.lst [])) fun _ xs H2 => H2 q = some (.lst []) ∧ (∃ dx as, H2 a = some (.ins (He.ga K c) dx as)) ∧ Q (.ref q) (upd H2 q (.lst xs))) E0
theorem ListO.of {K : Frag} {sp : Sp} {H : Hp} {Q : VK} {dx : Addr} {as : List (Str × V)} (h : H a = some (.ins (He.ga K c) dx as)) (q : ∀ q, H q = none → sp [.ref a] (upd H q (.lst [])) (OIt K (upd H q (.lst [])) fun _ xs H2 => H2 q = some (.lst []) ∧ (∃ dx as, H2 a = some (.ins (He.ga K c) dx as)) ∧ Q (.ref q) (upd H2 q (.lst xs))) E0) : ListO K c sp H a Q := ⟨⟨dx, as, h⟩, q⟩
/-- list of a list, a tuple, an instance of c -/
structure AnyO (K : Frag) (c : Str) (sp : Sp) (H : Hp) (p : Addr) (Q : VK) : Prop where
  ex : (Rd K H p fun ys => NewL H ys Q) ∨ ListO K c sp H p Q
def cListO (K : Frag) (c : Str) (sp : Sp) : List V → Hp → VK → Prop := fun xs H Q => match xs with
  | [.ref p] => AnyO K c sp H p Q
  | _ => False
theorem c_listO (D : DF X.K c ups fs) (hc : ItD X.K c g) (F : FnR X.prog X.w X.K X.mg X.base (L2.CX X.prog X.w) k g sp) (hr : Room (k + 2) X.A) (hC : X.calm = true := by rfl) : CallR X (.type "list") (cListO X.K c sp) := by
  intro pins s σ H xs us Q I rv h
  match xs, h with
  | [.ref a], h =>
  rcases h.ex with h | ⟨⟨dx, fs, ha⟩, hq⟩
  · exact c_list pins s σ H [.ref a] us Q I rv h
  obtain ⟨u, rfl, ru⟩ := rv.one
  cases ru
  have sb : Sub X k X.A.in1.in1 := (Sub.in1 (Sub.in1 (⟨hr, rfl⟩ : Sub X (k + 2) X.A)))
  refine callType_codes (Q₁ := fun obj s₁ => obj = .ref s.heap.objs.size ∧ s₁ = { s with heap := s.heap.push { cls := .type "list", data := .seq #[] } }) PySem.F.called_list (PySem.F.typeCall_list_1 _) PySem.F.entry_list_init
    (code_list_new _ ⟨rfl, rfl⟩) fun obj s₁ h₁ => ?_
  obtain ⟨rfl, rfl⟩ := h₁
  have hS : (s.heap.push { cls := .type "list", data := .seq #[] }).get? s.heap.objs.size = some { cls := .type "list", data := .seq #[] } := Heap.get?_push_size _ rfl
  refine ⟨⟨_, hS, rfl⟩, PySem.F.args_list_init_2 _ _, ?_⟩
  have fr : H s.heap.objs.size = none := I.hok.fresh (Nat.le_refl _)
  have hsp := hq _ fr
  have I1 : Inv X pins σ (upd H s.heap.objs.size (.lst [])) { s with heap := s.heap.push { cls := .type "list", data := .seq #[] } } := I.lnew (its := []) (t' := s.toks) .nil (Nat.zero_le _)
  show wpAny _ _ (do let old ← Builtin.List.listItems (.ref s.heap.objs.size); Builtin.List.listUpdate (.ref s.heap.objs.size) (fun _ => #[]); letGo old.toList.reverse; Builtin.List.listExtendWith (.ref s.heap.objs.size) (.ref a) .none) _ _ _
  refine wpAny_bind ?_
  unfold Builtin.List.listItems
  refine wpAny_bind (wpAny_seqItems hS rfl (wpAny_pure ?_))
  show wpAny _ _ (updateSeq s.heap.objs.size (fun _ => #[]) >>= fun _ => letGo (#[] : Array Value).toList.reverse >>= fun _ => Builtin.List.listExtendWith (.ref s.heap.objs.size) (.ref a) .none) _ _ _
  refine wpAny_bind (wpAny_updateSeq hS rfl ?_)
  have I2 := I1.lset (f := fun _ => #[]) (its := []) (its' := []) (ys := []) (t' := s.toks) upd_same hS rfl .nil (Nat.zero_le _)
  rw [upd_upd] at I2
  refine wpAny_bind (wpAny_letGo ?_)
  have ha2 : upd H s.heap.objs.size (.lst []) a = some (.ins (He.ga X.K c) dx fs) := by rw [upd_ne (ne_of_none ha fr)]; exact ha
  have hne : s.heap.objs.size ≠ a := fun z => by rw [z, ha] at fr; cases fr
  have hlq : upd H s.heap.objs.size (.lst ([] : List V)) s.heap.objs.size = some (.lst []) := upd_same
  have hgo : ∀ (H1 : Hp) (s1 : Shared) (q : Addr), q ≠ a → H1 a = some (.ins (He.ga X.K c) dx fs) → Inv X pins σ H1 s1 →
      sp [.ref a] H1 (OIt X.K H1 fun _ xs H2 => H2 q = some (.lst []) ∧ (∃ dx as, H2 a = some (.ins (He.ga X.K c) dx as)) ∧ Q (.ref q) (upd H2 q (.lst xs))) E0 →
      wpAny (model X.prog X.w) X.A.in1.in1 (Builtin.List.listExtendWith (.ref q) (.ref a) .none)
        (fun fin s' => match fin with | .done f => wants (fun r s₂ => r = .none ∧ EP X pins σ Q (.ref q) s₂) X.xe (.ok f) s' | .again c' => c'.quiet = true ∧ codeAny (model X.prog X.w) X.A.in1 c' (wants (fun r s₂ => r = .none ∧ EP X pins σ Q (.ref q) s₂) X.xe) s') (fun e s' => wants (fun r s₂ => r = .none ∧ EP X pins σ Q (.ref q) s₂) X.xe (.error e) s') s1 := by
    intro H1 s1 q hne ha1 I1 hsp
    obtain ⟨mA, J, _⟩ := ins_get I1.hok ha1
    obtain ⟨od, J, _⟩ := J.look
    obtain ⟨m0, hF⟩ := I1.fr
    unfold Builtin.List.listExtendWith
    refine wpAny_bind (J.type.here ?_)
    have h1 : Builtin.List.listSameRef (.ref q) (.ref a) = false := by simp [Builtin.List.listSameRef, hne]
    have h2 : (Value.ref (He.ga X.K c) == Value.type "list") = false := rfl
    have h3 : (Value.ref (He.ga X.K c) == Value.type "tuple") = false := rfl
    simp only [h1, h2, h3, Bool.or_false, Bool.false_eq_true, if_false]
    refine wpAny_bind (PySem.W.owit_iter hF I1.ok.mod.kin J hc.it.at_ hc.it.fn ?_)
    refine run_iter (A := X.A.in1.in1) F sb.room (by rw [sb.fr]) I1 hsp fun it t xs H2 s2 ge hi I2 hx qq => owit_tup hi ?_
    obtain ⟨hq2, ⟨dx2, fs2, ha3⟩, qq⟩ := qq
    obtain ⟨mA', J', _⟩ := ins_get I2.hok ha3
    obtain ⟨od', J', _⟩ := J'.look
    refine wpAny_bind (wpAny_holding (own_hintD hc I2.kIn J' ?_))
    obtain ⟨z, its, k3, r3, hl3, e3⟩ := I2.lstM hq2
    cases r3
    have hne2 : q ≠ it := fun z => by rw [z, dropH_same] at hq2; cases hq2
    have st : s2.heap.IsTupleIter it t 0 := ⟨_, hi, rfl, rfl⟩
    have hf : FpOk X pins (dropH H2 it) it := I1.fpOk ge dropH_same
    have hH : upd (dropH H2 it) q (.lst []) = dropH H2 it := by
      funext b
      by_cases hb : b = q
      · rw [hb, upd_same, hq2]
      · rw [upd_ne hb]
    have fin := tup_loop1 (pins := pins) (σ := σ) (A1 := X.A.in1) (Rs := wants (fun r s₂ => r = .none ∧ EP X pins σ Q (.ref q) s₂) X.xe) (I2.ok.hd hC) hf hx hq2
      (fun s3 I3 => ⟨rfl, .ref q, _, I3, rfl, qq⟩) xs.length 0
    refine wpAny_ite_split (fun _ => ?_) (fun _ => wpAny_pure ⟨plainId_quiet PySem.F.plain_extend_loop _, fin s2 (by omega) (by rw [List.take_zero, hH]; exact I2) st⟩)
    refine wpAny_bind (wpAny_rule ?_)
    refine wpAny_bind ?_
    show wpAny _ _ (updateSeq q (·.push .none) >>= fun _ => updateSeq q (·.pop)) _ _ _
    refine wpAny_bind (wpAny_updateSeq e3 rfl ?_)
    have I3 := I2.lset (f := (·.push Value.none)) (its' := [Value.none]) (ys := [.non]) (t' := s2.toks) hq2 e3 (by simp) (.cons rfl .nil) (by rw [List.length_singleton, sizeLine_eq]; decide)
    obtain ⟨z4, its4, k4, r4, hl4, e4⟩ := I3.lstM upd_same
    obtain ⟨u4, rfl, ru4⟩ := r4.one
    refine wpAny_updateSeq e4 rfl ?_ (by show 1 ≤ sizeLine; rw [sizeLine_eq]; decide) (by show 0 ≤ sizeLine + 1; exact Nat.zero_le _)
    have I4 := I3.lset (f := (·.pop)) (its := [u4]) (its' := []) (ys := []) (t' := s2.toks) upd_same e4 (by rfl) .nil (Nat.zero_le _)
    rw [upd_upd] at I4
    refine wpAny_pure ⟨plainId_quiet PySem.F.plain_extend_loop _, fin _ (by omega) (by rw [List.take_zero]; exact I4) ?_⟩
    obtain ⟨o, eo, cc, dd⟩ := st
    exact ⟨o, (Heap.get?_update_other _ _ hne2).trans ((Heap.get?_update_other _ _ hne2).trans eo), cc, dd⟩
  exact hgo _ _ _ hne ha2 I2 hsp
end
end S
namespace S
open PySem PySem.Spec PyProof.Rows L2
/-- == of data, or of lists with the very same objects -/
structure EqS (K : Frag) (H : Hp) (a b : Addr) (k : Bool → Prop) : Prop where
  ex : EqD K H (.ref a) (.ref b) k ∨ ∃ ps : List Addr, SqL K H a (ps.map V.ref) ∧ SqL K H b (ps.map V.ref) ∧ k true
def oNeS (K : Frag) : R2 := fun x y H Q => match x, y with
  | .ref a, .ref b => EqS K H a b fun r => Q (.bl (!r)) H
  | x, y => oNe K x y H Q
theorem refs_vals : ∀ {ps : List Addr} {us : List Value}, Vals (ps.map V.ref) us → us = ps.map Value.ref
  | [], _, .nil => rfl
  | p :: ps, _, .cons h t => by
    cases h
    rw [refs_vals t]
    rfl
theorem op_neS {X : Cx} (hu : X.A.units + 64 < cLine) : OpR X (compareOp .NotEq) (oNeS X.K) := by
  have h0 : OpR X (compareOp .NotEq) (oNe X.K) := o_ne hu
  intro pins s σ H x y v u Q I rx ry q
  have two : ∀ a b, x = .ref a → y = .ref b → (EqS X.K H a b fun r => Q (.bl (!r)) H) → wpAny (model X.prog X.w) X.A (compareOp .NotEq v u) (EP X pins σ Q) X.xe s := by
    intro a b ex ey q1
    clear q
    subst ex ey
    rcases q1.ex with q | ⟨ps, ha, hb, q⟩
    · exact h0 pins s σ H _ _ v u Q I rx ry (show oNe X.K (.ref a) (.ref b) H Q from q)
    · cases rx
      cases ry
      obtain ⟨its, rv, e, z⟩ := I.list ha
      obtain ⟨its2, rv2, e2, z2⟩ := I.list hb
      obtain rfl := refs_vals rv
      obtain rfl := refs_vals rv2
      have hh := PySem.SeqAt.RcNeAt.lists (A := X.A) (s := s) (e := fun _ => true) e.isList e2.isList rfl (by omega) (fun j h1 h2 => SeqAt.EqAt.same _)
      rw [show (List.range (ps.map Value.ref).toArray.size).all (fun _ => true) = true from List.all_eq_true.mpr fun _ _ => rfl] at hh
      exact hh X.prog X.w _ _ ⟨.bl false, H, I, rfl, q⟩
  cases x <;> cases y <;> first | exact two _ _ rfl rfl q | exact h0 pins s σ H _ _ v u Q I rx ry q
end S
namespace S
open PySem PySem.Spec PyProof.Rows L2
abbrev Rw : Type := V × List Int
def leR (p q : Rw) : Bool := decide (p.2 ≤ q.2)
theorem tupLe : PySem.W.dataLe false (fun b : Rw => .tuple (b.2.map .int)) = leR := by
  funext p q
  show (!PySem.W.dataLt (.tuple (q.2.map .int)) (.tuple (p.2.map .int))) = _
  rw [PySem.W.dataLt_tuple]
  show (!PySem.W.rowLt (q.2.map .int) (p.2.map .int)) = _
  rw [PySem.W.dataLt_ints]
  unfold leR
  by_cases h : q.2 < p.2
  · have h' : ¬ p.2 ≤ q.2 := fun r => List.not_lt.mpr r h
    simp [h, h']
  · have h' : p.2 ≤ q.2 := List.not_lt.mp h
    simp [h, h']
theorem each_of : ∀ {bs : List Rw} {us : List Value}, Vals (bs.map (·.1)) us → PySem.W.EachIs (fun u (b : Rw) => L2.RelV b.1 u) us bs
  | [], _, .nil => .nil
  | _ :: _, _, .cons h t => .cons h (each_of t)
theorem of_each : ∀ {bs : List Rw} {us : List Value}, PySem.W.EachIs (fun u (b : Rw) => L2.RelV b.1 u) us bs → Vals (bs.map (·.1)) us
  | [], _, .nil => .nil
  | _ :: _, _, .cons h t => .cons h (of_each t)
theorem dpAll_ints {K : Frag} {H : Hp} : ∀ ns : List Int, DpAll K H (ns.map V.int) (ns.map PyData.int)
  | [] => .nil
  | n :: ns => .cons (.int n) (dpAll_ints ns)
theorem leR_trans (a b c : Rw) (h1 : leR a b = true) (h2 : leR b c = true) : leR a c = true := decide_eq_true (List.le_trans (of_decide_eq_true h1) (of_decide_eq_true h2))
theorem leR_total (a b : Rw) : (leR a b || leR b a) = true := by
  rcases List.le_total a.2 b.2 with h | h
  · simp [leR, h]
  · simp [leR, h]
structure SrtT (K : Frag) (H : Hp) (p : Addr) (Q : VK) : Prop where
  ex : Srt K H p Q ∨ ∃ bs : List Rw, SqL K H p (bs.map (·.1)) ∧ (∀ b ∈ bs, b.2 ≠ [] ∧ ∃ t, b.1 = .ref t ∧ SqT K H t (b.2.map V.int)) ∧
    ∀ (cs : List Rw) (q : Addr), cs.Perm bs → cs.Pairwise (fun p q => p.2 ≤ q.2) → H q = none → Q (.ref q) (upd H q (.lst (cs.map (·.1))))
def cSortedT (K : Frag) : List V → Hp → VK → Prop := fun xs H Q => match xs with
  | [.ref p] => SrtT K H p Q
  | _ => False
theorem c_sortedT {X : Cx} (hu : X.A.units + 64 < cLine) : CallR X (.builtin "sorted") (cSortedT X.K) := by
  intro pins s σ H xs us Q I r h
  match xs, h with
  | [.ref p], ⟨h⟩ =>
  rcases h with h | ⟨bs, hs, hb, q⟩
  · exact c_sorted pins s σ H [.ref p] us Q I r h
  obtain ⟨its, rv, hl, hz⟩ := I.list hs
  obtain ⟨u, rfl, ru⟩ := r.one
  cases ru
  rw [List.length_map] at hz
  have lv := rv.length
  rw [List.length_map] at lv
  have er : PySem.W.EachIs (fun v (b : Rw) => ∃ as, Reads s.heap v (.tuple (b.2.map .int)) as) its bs := by
    have e := each_of rv
    have go : ∀ {us : List Value} {cs : List Rw}, PySem.W.EachIs (fun u (b : Rw) => L2.RelV b.1 u) us cs → (∀ b ∈ cs, b ∈ bs) → PySem.W.EachIs (fun v (b : Rw) => ∃ as, Reads s.heap v (.tuple (b.2.map .int)) as) us cs := by
      intro us cs e
      induction e with
      | nil => exact fun _ => .nil
      | cons h t ih =>
        intro hm
        refine .cons ?_ (ih fun b hb => hm b (List.mem_cons_of_mem _ hb))
        obtain ⟨_, t, et, ht⟩ := hb _ (hm _ (List.mem_cons_self ..))
        exact Dp.reads I _ _ _ (by rw [et]; exact .tup ht (dpAll_ints _)) h
    exact go e fun _ h => h
  refine PySem.W.sorted_data (enc := fun b : Rw => .tuple (b.2.map .int)) hl.isList (each_of rv) er (PySem.W.AllAlike.of fun b b' => ?_) (.inl fun d hd => ?_) hz (fun b hb => ?_) fun out h1 h2 => ?_
  · have := PySem.W.alike_ints b.2 b'.2
    simpa [PySem.W.alike] using this
  · obtain ⟨b, hm, rfl⟩ := List.mem_map.mp hd
    obtain ⟨ne, _⟩ := hb b hm
    match hbb : b.2 with
    | [] => exact absurd hbb ne
    | x :: r => exact ⟨.int x, r.map .int, rfl⟩
  · have hd : (PyData.tuple (b.2.map .int)).depth ≤ 8 := by
      simp only [PyData.depth, PySem.W.depth_ints]
      omega
    omega
  · rw [tupLe] at h2
    obtain ⟨ep, he'⟩ := PyProof.Rows.sortedAll_at s.heap its out.toArray
    have hp := List.mergeSort_perm bs leR
    have hlen : ((bs.mergeSort leR).map (·.1)).length ≤ sizeLine := by
      rw [List.length_map, hp.length_eq]
      exact hz
    refine ⟨.ref _, upd H (s.heap.objs.size + 1) (.lst ((bs.mergeSort leR).map (·.1))), I.laid (t' := s.toks) (fun _ _ => PyProof.Rows.sortedAll_old) (Nat.le_succ _) ⟨hlen, out, ep, of_each h2, he'⟩, rfl, q _ _ hp ?_ (I.hok.fresh (Nat.le_succ _))⟩
    exact (List.pairwise_mergeSort leR_trans leR_total bs).imp fun h => of_decide_eq_true h
end S
namespace S
open PySem PySem.Spec PyProof.Rows L2
structure InT (K : Frag) (H : Hp) (x : V) (p : Addr) (Q : VK) : Prop where
  ex : (Rd K H p fun xs => Need (flatV x = true ∧ xs.all flatV = true) (Q (.bl (inV x xs)) H)) ∨ rInD K x (.ref p) H Q
def oInT (K : Frag) : R2 := fun x y H Q => match y with
  | .ref p => InT K H x p Q
  | _ => False
theorem op_inT {X : Cx} (hu : X.A.units + 80 < cLine) : OpR X (compareOp .In) (oInT X.K) := by
  intro pins s σ H x y v u Q I rx ry q
  cases y <;> try exact q.elim
  rcases q.ex with q | q
  · exact o_in pins s σ H x _ v u Q I rx ry q
  · exact op_inD (by omega) pins s σ H x _ v u Q I rx ry q
theorem u80 {k : Nat} {A : Around} (r : Room k A) : A.units + 80 < cLine := by have := r.un; omega
def oFdivW : R2 := oI CDivW fun i j => i / j
theorem o_fdivW {X : Cx} : OpR X (binaryOp .FloorDiv) oFdivW := oI_of op_fdivW
def oMulW : R2 := oI CMulW fun i j => i * j
theorem o_mulW {X : Cx} : OpR X (binaryOp .Mult) oMulW := oI_of op_mulW
structure IdxT (K : Frag) (x : V) (xs : List V) (H : Hp) (Q : VK) : Prop where
  ex : rIndexD K x xs H Q
def mIdx (K : Frag) : V → List V → Hp → VK → Prop := fun x xs H Q => IdxT K x xs H Q
theorem m_idx {X : Cx} (hu : X.A.units + 80 < cLine) : MtR X "list.index" (mIdx X.K) := fun pins s σ H x xs v us Q I rx rxs h => mt_indexD (by omega) pins s σ H x xs v us Q I rx rxs h.ex
end S
namespace S
open PySem PySem.Spec PyProof.Rows L2
/-! ### a text walked -/
structure TxR (x : Str) (H : Hp) (R : It → Hp → Prop) : Prop where
  go : R (Its x) H
def iTxt (te : TE) : TI := fun σ H R => te σ H fun v H1 => match v with
  | .str x => TxR x H1 R
  | _ => False
theorem pi_txt {X : Cx} {tg e : Expr} {te : TE} (he : PE X e te) : PI X tg e (iTxt te) := by
  refine ⟨fun pins s σ H R I h => ?_⟩
  refine thn (he.run pins s σ H _ I h) fun v s1 ⟨y, H1, I1, r1, q⟩ => ?_
  cases y <;> try exact q.elim
  rename_i x
  obtain ⟨t, rfl⟩ := r1
  cases ha : x.cps.all (· < 128)
  · exact wpAny_pyIter_wide ha (pi_one (tk := s1.toks) I1 _ (turn_str _ x t "str_iterator" (.inr rfl)) ⟨_, Heap.get?_push_size _ rfl, rfl, rfl⟩ q.go)
  · exact wpAny_pyIter_ascii ha (pi_one (tk := s1.toks) I1 _ (turn_str _ x t "str_ascii_iterator" (.inl rfl)) ⟨_, Heap.get?_push_size _ rfl, rfl, rfl⟩ q.go)
theorem for_txt {x : Str} {g : TG} {tb : TS} {D : L2.Ends} {σ : L2.St} {H : Hp} (Pv : Nat → L2.St → Hp → Prop) (h0 : Pv 0 σ H)
    (hs : ∀ i c σ H, x.cps[i]? = some c → Pv i σ H → g (.str ⟨#[c]⟩) σ H fun σ2 H2 => tb { D with nx := Pv (i + 1), ct := Pv (i + 1), bk := D.nx } σ2 H2) (hd : ∀ σ H, Pv x.cps.size σ H → D.nx σ H) :
    TxR x H (LoopR D g tb σ) := by
  refine ⟨⟨fun i m σ H => m = x.cps.size - i ∧ i ≤ x.cps.size ∧ Pv i σ H, ⟨x.cps.size, by simp, Nat.zero_le _, h0⟩, ?_⟩⟩
  rintro i m σ H ⟨rfl, hi, p⟩
  by_cases hlt : i < x.cps.size
  · refine .inr ⟨hlt, Pv (i + 1), fun σ' H' p' => ⟨x.cps.size - (i + 1), by omega, rfl, hlt, p'⟩, fun y H' hy => ?_⟩
    obtain ⟨rfl, c, hc, rfl⟩ := hy
    exact hs i c σ _ hc p
  · have e : i = x.cps.size := by omega
    subst e
    exact .inl ⟨Nat.le_refl _, hd σ H p⟩
/-- a comprehension over a text: what it keeps -/
theorem lc_txt {x : Str} {i : Nat} {tt : TT} {te : TE} {vs : List Nat} {σ : L2.St} {H1 : Hp} {Q : VK} (hz : x.cps.size < sizeLine) (f : Nat → V) (pr : Nat → Bool)
    (hs : ∀ c H (A : V → Hp → Prop) (B : Hp → Prop), Same H1 H → (pr c = true → A (f c) H) → (pr c = false → B H) → wipe ((wipe σ vs).set i (some (.str ⟨#[c]⟩))) vs = wipe σ vs ∧ tt ((wipe σ vs).set i (some (.str ⟨#[c]⟩))) H fun b H3 => if b = true then te ((wipe σ vs).set i (some (.str ⟨#[c]⟩))) H3 A else B H3)
    (hd : ∀ D H', H1 D = none → H' D = some (.lst ((x.cps.toList.filter pr).map f)) → Same H1 H' → Q (.ref D) H') :
    TxR x H1 (Wr (LcGo (gName i) tt te vs σ Q)) := by
  refine ⟨⟨fun D hD => ?_⟩⟩
  refine ⟨fun i m H => m = x.cps.size - i ∧ i ≤ x.cps.size ∧ H D = some (.lst (((x.cps.toList.take i).filter pr).map f)) ∧ Same H1 H, ⟨x.cps.size, by simp, Nat.zero_le _, upd_same, same_new hD⟩, ?_⟩
  rintro j m H ⟨rfl, hi, hl, e⟩
  by_cases hlt : j < x.cps.size
  · refine .inr ⟨hlt, fun H' => H' D = some (.lst (((x.cps.toList.take (j + 1)).filter pr).map f)) ∧ Same H1 H', fun H' p' => ⟨x.cps.size - (j + 1), by omega, rfl, hlt, p'⟩, fun y H' hy => ?_⟩
    obtain ⟨rfl, c, hc, rfl⟩ := hy
    have hc' : x.cps.toList[j]? = some c := by simpa using hc
    have tk : x.cps.toList.take (j + 1) = x.cps.toList.take j ++ [c] := by rw [List.take_add_one, hc']; rfl
    have len : (((x.cps.toList.take j).filter pr).map f).length < sizeLine := by
      rw [List.length_map]
      have := List.length_filter_le pr (x.cps.toList.take j)
      have h2 : (x.cps.toList.take j).length ≤ j := by rw [List.length_take]; omega
      omega
    refine hs c H' _ _ e (fun hp => ⟨_, hl, len, ?_, ?_⟩) (fun hp => ⟨?_, e⟩)
    · rw [upd_same, tk, List.filter_append, List.map_append]
      simp [hp]
    · exact fun b o hb => by rw [upd_ne (ne_of_none hb hD)]; exact e b o hb
    · rw [hl, tk, List.filter_append, List.map_append]
      simp [hp]
  · have e2 : j = x.cps.size := by omega
    subst e2
    refine .inl ⟨Nat.le_refl _, hd D H hD ?_ e⟩
    rw [hl, List.take_of_length_le (by simp)]
/-! ### sorted(set(..)) of a list or a tuple -/
section
variable {P : Program} {w : World} {A : Around} {E : Value → Shared → Prop} {s : Shared}
set_option maxHeartbeats 8000000 in
theorem call_set_intsT {l : Addr} {items : Array Value} (ns : List Int) {Q : Value → Shared → Prop} (hh : A.handled = none) (hl : s.heap.IsTuple l items) (hit : IntsAre items.toList ns) (hfew : ns.length + 1 < scanBound)
    (h : ∀ (h' : Heap) (tk : Nat) T m, SetR w h' s.heap.objs.size T m → GotI ns ns.length T m → (∀ b o, s.heap.get? b = some o → h'.get? b = some o) → Q (.ref s.heap.objs.size) { s with heap := h', toks := tk }) :
    wpAny (model P w) A (call (.type "set") [.ref l]) Q E s := by
  have hisz : items.size = ns.length := by
    have q := IntsAre.length hit
    rw [Array.length_toList] at q
    exact q
  obtain ⟨c, tl, hmro⟩ := F.called_set.mro
  have hmade := F.called_set.made
  have hsub := F.called_set.sub
  refine wpAny_call (codeAny_of_tree ?_)
  show wpAny _ _ (callAny (.type "set") _) _ _ _
  refine wpAny_pure ⟨Code.quiet_builtin _ (by decide +kernel), codeAny_builtin F.entry_type_call ?_⟩
  rw [Around.under_plain (weight_type_call_type "set" [.ref l] []) rfl]
  have h1 := F.called_set.notType
  have h2 := F.called_set.canCreate
  have hct := F.typeCall_set_1 (.ref l)
  repeat (any_goals (first | assumption | wp_step))

  refine codeAny_mono (code_set_led1 (.ref l) (E := E) (Q₁ := fun obj s₁ => obj = .ref s.heap.objs.size ∧ s₁ = { s with heap := s.heap.push { cls := .type "set", dict := none, data := .set #[] 0 (.fresh 0 0 (!w.params.followText "set-order")) } }) ⟨rfl, rfl⟩) fun r s₁ hr => ?_
  cases r with
  | error e => exact hr
  | ok fl =>
    cases fl with
    | ret obj =>
      obtain ⟨rfl, rfl⟩ := hr
      have hS : (s.heap.push { cls := .type "set", dict := none, data := .set #[] 0 (.fresh 0 0 (!w.params.followText "set-order")) }).get? s.heap.objs.size = some { cls := .type "set", dict := none, data := .set #[] 0 (.fresh 0 0 (!w.params.followText "set-order")) } := Heap.get?_push_size _ rfl
      have hT : Shared.TypeIs { s with heap := s.heap.push { cls := .type "set", dict := none, data := .set #[] 0 (.fresh 0 0 (!w.params.followText "set-order")) } } (.ref s.heap.objs.size) "set" := ⟨_, hS, rfl⟩
      have hli := F.called_set.init.lookup
      have hbi := F.called_set.init.bind (.ref s.heap.objs.size)
      repeat (any_goals (first | assumption | wp_step))

      refine codeAny_mono (codeAny_call_builtin (R := wants (fun r s₂ => r = .none ∧ ∃ h' tk T m, s₂ = { s with heap := h', toks := tk } ∧ SetR w h' s.heap.objs.size T m ∧ GotI ns ns.length T m ∧
          (∀ b o, s.heap.get? b = some o → h'.get? b = some o)) E) F.called_set.init.plain F.entry_set_init (check_set_init_1 hT ?_)) fun r₂ s₂ hr₂ => ?_
      · obtain ⟨ol, hol, hcl, nl, hdl⟩ := hl
        obtain ⟨ocls, odict, odata, oslots⟩ := ol
        simp only at hcl hdl
        subst hcl; subst hdl
        have hol' : (s.heap.push { cls := .type "set", dict := none, data := .set #[] 0 (.fresh 0 0 (!w.params.followText "set-order")) }).get? l = some { cls := .type "tuple", dict := odict, data := .seq items nl, slots := oslots } := Heap.get?_push_of_some _ hol
        have hsls := F.sub_tuple_set
        have hslf := F.sub_tuple_frozenset
        have hne : (Value.type "tuple" == Value.type "dict") = false := by decide
        have hl1 : (s.heap.push { cls := .type "set", dict := none, data := .set #[] 0 (.fresh 0 0 (!w.params.followText "set-order")) }).IsTuple l items := ⟨_, hol', rfl, nl, rfl⟩
        unfold Builtin.«set.__init__» noKeywords Builtin.Frozenset.updateFrom
        generalize hPI : pyIter = PI
        wp_walk
        subst hPI

        refine wpAny_pyIter_tuple hl1 ?_
        refine wpAny_bind (wpAny_runValue ?_)
        have hlS : l < s.heap.objs.size := Heap.lt_size hol
        have hh3 : A.in1.in1.in1.handled = none := by simp [hh]
        have hneI : l ≠ (s.heap.push { cls := .type "set", dict := none, data := .set #[] 0 (.fresh 0 0 (!w.params.followText "set-order")) }).objs.size := by
          rw [Heap.size_push]; exact Nat.ne_of_lt (Nat.lt_succ_of_lt hlS)
        have hSf : s.heap.objs.size ∉ [(s.heap.push { cls := .type "set", dict := none, data := .set #[] 0 (.fresh 0 0 (!w.params.followText "set-order")) }).objs.size, l] := by
          rw [Heap.size_push]; simp only [List.mem_cons, List.mem_singleton, List.not_mem_nil, or_false, not_or]
          exact ⟨Nat.ne_of_lt (Nat.lt_succ_self _), Nat.ne_of_gt hlS⟩
        have hval : ∀ (i : Nat) (v : Value), items[i]? = some v → ∃ k t, ns[i]? = some k ∧ v = .int k t := fun i v hv => by
          have q : items.toList[i]? = some v := by rw [Array.getElem?_toList]; exact hv
          obtain ⟨k, t, e1, e2⟩ := IntsAre.at hit i v q
          exact ⟨k, t, e2, e1⟩
        have none_of : ∀ b, s.heap.objs.size ≤ b → s.heap.get? b = none := fun b hb => by
          cases q : s.heap.get? b with
          | none => rfl
          | some o => exact absurd (Nat.lt_of_lt_of_le (Heap.lt_size q) hb) (Nat.lt_irrefl _)
        refine set_update_ints ((Walks.tuple hh3 _ l hneI items).toS) s.heap.objs.size
          hSf ns hisz hfew hval s.heap (none_of _ (Nat.le_refl _)) (fun b hb => none_of b (by
            rw [List.mem_singleton.mp hb, Heap.size_push]
            exact Nat.le_succ _)) (items.size - 0) 0 _ (by omega) (Nat.zero_le _)
          ⟨⟨_, Heap.get?_push_size _ rfl, rfl, rfl⟩, (hl1.push _)⟩ (fun b o e => Heap.get?_push_of_some _ (Heap.get?_push_of_some _ e)) ?hS0 ?hR
        case hS0 =>
          exact ⟨_, 0, (setR_fresh (h := s.heap) w).at fun o e => Heap.get?_push_of_some _ e, fun k => by simp, Nat.le_refl _⟩
        case hR =>
          intro s' T m hm hS' g' hkp
          obtain ⟨h', g2, d', tk', os'⟩ := s'
          have eg : g2 = s.gens := hm.gens
          have ed : d' = s.drawn := hm.drawn
          have eo : os' = s.os := hm.os
          subst eg; subst ed; subst eo
          show wpAny _ _ _ _ _ _
          refine wpAny_pure ?_
          show wpAny _ _ (ret Value.none) _ _ _
          rw [hisz] at g'
          exact wpAny_pure ⟨rfl, h', tk', T, m, rfl, hS', g', hkp⟩

      · cases r₂ with
        | error e => exact hr₂
        | ok fl₂ =>
          cases fl₂ with
          | ret r =>
            obtain ⟨rfl, h', tk, T, m, rfl, hS', g', hk'⟩ := hr₂
            repeat (any_goals (first | assumption | wp_step))
            exact h _ _ _ _ hS' g' hk'
          | _ => exact hr₂.elim
    | _ => exact hr.elim
end
section
variable {X : Cx}
def rSetA (K : Frag) (w : World) : List V → Hp → VK → Prop := fun xs H Q => ∃ (l : Addr) (ns D : List Int), xs = [V.ref l] ∧ SqA K H l (ns.map V.int) ∧ ns.length + 1 < scanBound ∧ (∀ z ∈ ns, z ∈ D) ∧ ∀ a T m, H a = none → (∀ k, T k = true ↔ k ∈ ns) → m ≤ D.length → Q (.ref a) (upd H a (SetO w a T m))
theorem cr_setA (hc : X.calm = true) : CallR X (.type "set") (rSetA X.K X.w) := by
  intro pins s σ H xs us Q I r h
  obtain ⟨l, ns, D, rfl, hl, hf, hD, q⟩ := h
  rcases hl with hl | hl
  · exact cr_setI hc pins s σ H [.ref l] us Q I r ⟨l, ns, D, rfl, hl, hf, hD, q⟩
  rw [Vals.ref1 r]
  obtain ⟨its, rv, pl, hz⟩ := I.tuple hl
  refine call_set_intsT (P := X.prog) (w := X.w) ns (I.ok.hd hc) (show s.heap.IsTuple l its.toArray from pl) (by simpa using ints_of_vals rv) hf fun h' tk T m R g k => ?_
  have hT : ∀ k, T k = true ↔ k ∈ ns := fun k => by have := g.1 k; rwa [List.take_length] at this
  exact ⟨.ref s.heap.objs.size, upd H s.heap.objs.size (SetO X.w s.heap.objs.size T m), I.laid (t' := tk) k (Nat.le_refl _) (setO_new R), rfl, q _ T m (I.hok.fresh (Nat.le_refl _)) hT (setR_le R fun k hk => hD k ((hT k).mp hk))⟩
structure SSetA (K : Frag) (H : Hp) (p : Addr) (Q : V → Hp → Prop) : Prop where
  ex : ∃ ns D : List Int, SqA K H p (ns.map V.int) ∧ ns.length + 1 < scanBound ∧ D.length < 64 ∧ (∀ z ∈ ns, z ∈ D) ∧ ∀ (rs : List Int) (q : Addr) (H' : Hp), rs.Pairwise (· < ·) → (∀ k, k ∈ rs ↔ k ∈ ns) → Same H H' → H q = none → H' q = some (.lst (rs.map V.int)) → Q (.ref q) H'
def dSSetA (K : Frag) (te : TE) : TE := fun σ H Q => te σ H fun x H1 => match x with
  | .ref p => SSetA K H1 p Q
  | _ => False
theorem pe_ssetA {e : Expr} {te : TE} {p1 p2 pos1 pos2 : Pos} (hc : X.calm = true) (h1 : X.mg "sorted" = none) (h2 : X.mg "set" = none) (b1 : bootBuiltins "sorted" = some (.builtin "sorted")) (b2 : bootBuiltins "set" = some (.type "set")) (he : PE X e te) (g1 : Gl X "sorted" := by rfl) (g2 : Gl X "set" := by rfl)
    (hs : starEach [.Call (.Name "set" p2) [e] [] pos2] X.env = (false, eval (.Call (.Name "set" p2) [e] [] pos2) X.env) :: starEach [] X.env := by rfl) (hs2 : starEach [e] X.env = (false, eval e X.env) :: starEach [] X.env := by rfl) :
    PE X (.Call (.Name "sorted" p1) [.Call (.Name "set" p2) [e] [] pos2] [] pos1) (dSSetA X.K te) := by
  have hi : PE X (.Call (.Name "set" p2) [e] [] pos2) (tCB (rSetA X.K X.w) (tCons (upE te) tNil)) := pe_ct (cr_setA hc) h2 b2 (pa_cons (pe_up he) pa_nil (hs := hs2)) g2 (by decide) (by decide) hs2 rfl
  have ho : PE X (.Call (.Name "sorted" p1) [.Call (.Name "set" p2) [e] [] pos2] [] pos1) (tCB (rSortedSet X.w) (tCons (tCB (rSetA X.K X.w) (tCons (upE te) tNil)) tNil)) := pe_cb (cr_sortedSet hc) h1 b1 (pa_cons hi pa_nil (hs := hs)) g1 (by decide) (by decide) hs rfl
  refine PE.of ho fun σ H Q q => ?_
  refine ⟨_, q, fun x H1 q1 => ?_⟩
  cases x <;> try exact q1.elim
  obtain ⟨ns, D, hl, hf, hD, hsub, q2⟩ := q1.ex
  refine ⟨_, ns, D, rfl, hl, hf, hsub, fun a T m na hT hm => ?_⟩
  refine ⟨a, T, m, rfl, upd_same, by omega, fun rs p hp hmem _ np => ?_⟩
  have e1 := same_new (o := SetO X.w a T m) na
  refine q2 rs p _ hp (fun k => (hmem k).trans (hT k)) (e1.trans (same_new np)) ?_ upd_same
  cases e : H1 p with
  | none => rfl
  | some o => rw [e1 _ _ e] at np; cases np
end
/-! ### except clauses without a name -/
def dTryO (K : Frag) (c : Str) (tb : WX → TS) (ts : Addr → Value → Option Addr → TS) (Wout : WX) : TS := fun D σ H => tb (wOnly K (.ref (He.ga K c)) ts Wout D) D σ H
theorem ps_tryO {X : Cx} {c : Str} {body suite : List Stmt} {b₀ : Stmt} {np pos pos' : Pos} {tb : WX → TS} {ts : Addr → Value → Option Addr → TS} {Wout : WX} (gc : X.mg c = some (.ref (He.ga X.K c))) (tk : Takes X Wout)
    (hb : ∀ (W : WX) (pn : List (Addr × Obj)) (xe : Value → Shared → Prop), Takes (X.tr pn xe) W → PassesOwn (model X.prog X.w) X.A X.env xe → PSs (X.tr pn xe) body (tb W))
    (hsu : ∀ (a : Addr) (oe : Obj) (cls : Value) (d : Option Addr) (pn : List (Addr × Obj)), Zc cls d oe → (∃ vs, oe.data = .fields vs) → PSs (X.suite a ((a, oe) :: pn)) (b₀ :: suite) (ts a cls d))
    (hs : X.stack = X.env :: X.outer := by rfl) (hf : X.env.frame = some X.env.locals := by rfl) (hg : Gl X c := by rfl) (hdb : (c == ("__debug__" : Str)) = false := by decide) :
    PS X (.Try body [.ExceptHandler (some (.Name c np)) none (b₀ :: suite) pos'] [] [] pos) (dTryO X.K c tb ts Wout) := ps_try_only hs hf ⟨hg, hdb, .inl gc⟩ tk hb hsu
theorem hdo_yes {K : Frag} {cls c : Value} {ts : Addr → Value → Option Addr → TS} {Wout : WX} {D : L2.Ends} {d : Option Addr} {σ : L2.St} {H : Hp} (h : PySem.W.exmOne K cls c = some true) (q : ∀ a, H a = none → ts a cls d D σ H) : wOnly K c ts Wout D cls d σ H := ⟨true, h, fun _ => q, fun z => nomatch z⟩
theorem hdo_no {K : Frag} {cls c : Value} {ts : Addr → Value → Option Addr → TS} {Wout : WX} {D : L2.Ends} {d : Option Addr} {σ : L2.St} {H : Hp} (h : PySem.W.exmOne K cls c = some false) (q : Wout cls d σ H) : wOnly K c ts Wout D cls d σ H := ⟨false, h, (fun z => nomatch z), fun _ => q⟩
end S
namespace S
open PySem PySem.Spec PyProof.Rows L2
structure NinS (x : V) (z : Str) (H : Hp) (Q : VK) : Prop where
  ex : ∃ c : Nat, x = .str ⟨#[c]⟩ ∧ Q (.bl (!decide (c ∈ z.cps.toList))) H
def oNinT (K : Frag) : R2 := fun x y H Q => match y with
  | .str z => NinS x z H Q
  | y => oNin K x y H Q
theorem op_ninT {X : Cx} : OpR X (compareOp .NotIn) (oNinT X.K) := by
  intro pins s σ H x y v u Q I rx ry q
  cases y with
  | str z =>
    have q : NinS x z H Q := q
    obtain ⟨c, rfl, q2⟩ := q.ex
    exact op_notIn_sign pins s σ H _ _ v u Q I rx ry ⟨c, z, rfl, rfl, q2⟩
  | _ => exact o_nin pins s σ H x _ v u Q I rx ry q
structure SlS (z : Str) (lo hi : Option Int) (H : Hp) (Q : VK) : Prop where
  c : z.length ≤ sizeLine
  q : Q (.str (cutS z lo hi)) H
def oSlT (K : Frag) : V → Option Int → Option Int → Hp → VK → Prop := fun x lo hi H Q => match x with
  | .str z => SlS z lo hi H Q
  | x => oSl K x lo hi H Q
theorem sl_anyT {X : Cx} : SlR X (oSlT X.K) := by
  intro pins s σ H x v vl vu lo hi sl Q I rx hs pl pu q
  cases x <;> first
    | exact sl_any pins s σ H _ v vl vu lo hi sl Q I rx hs pl pu q
    | exact sl_str pins s σ H _ v vl vu lo hi sl Q I rx hs pl pu ⟨_, rfl, q.c, q.q⟩
end S
namespace S
open PySem PySem.Spec PyProof.Rows L2
/-- a clause: its class, the slot of its name, its suite -/
structure Cl where
  c : Value
  nm : Option Nat
  ts : Addr → Value → Option Addr → TS
/-- what a clause's suite is asked -/
def Cl.run (k : Cl) (D : L2.Ends) (a : Addr) (cls : Value) (d : Option Addr) (σ : L2.St) (H : Hp) : Prop := match k.nm with
  | none => k.ts a cls d D σ H
  | some i => k.ts a cls d { nx := fun σ' H' => D.nx (σ'.set i none) H', rt := D.rt, bk := fun σ' H' => D.bk (σ'.set i none) H', ct := fun σ' H' => D.ct (σ'.set i none) H' } (σ.set i (some (.ref a))) H
/-- the clauses asked in order -/
def wCl (K : Frag) (Wout : WX) (D : L2.Ends) : List Cl → WX
  | [] => Wout
  | k :: r => fun cls d σ H => ∃ b, PySem.W.exmOne K cls k.c = some b ∧ (b = true → ∀ a, H a = none → k.run D a cls d σ H) ∧ (b = false → wCl K Wout D r cls d σ H)
def SuOk (X : Cx) (suite : List Stmt) (ts : Addr → Value → Option Addr → TS) : Prop := ∀ (a : Addr) (oe : Obj) (cls : Value) (d : Option Addr) (pn : List (Addr × Obj)), Zc cls d oe → (∃ vs, oe.data = .fields vs) → PSs (X.suite a ((a, oe) :: pn)) suite (ts a cls d)
inductive ClOk (X : Cx) : List ExceptHandler → List Cl → Prop
  | nil : ClOk X [] []
  | bare {x : Str} {c : Value} {ts : Addr → Value → Option Addr → TS} {b : Stmt} {suite : List Stmt} {np pos : Pos} {hs : List ExceptHandler} {l : List Cl} (hc : Names X x c) (hsu : SuOk X (b :: suite) ts) (r : ClOk X hs l) :
      ClOk X (.ExceptHandler (some (.Name x np)) none (b :: suite) pos :: hs) (⟨c, none, ts⟩ :: l)
  | named {x n : Str} {c : Value} {i : Nat} {ts : Addr → Value → Option Addr → TS} {b : Stmt} {suite : List Stmt} {np pos : Pos} {hs : List ExceptHandler} {l : List Cl} (hc : Names X x c) (hi : X.N[i]? = some n) (hln : X.env.kindOf n = some .local) (hsu : SuOk X (b :: suite) ts) (r : ClOk X hs l) :
      ClOk X (.ExceptHandler (some (.Name x np)) (some n) (b :: suite) pos :: hs) (⟨c, some i, ts⟩ :: l)
theorem ps_try_cl {X : Cx} {body : List Stmt} {h₀ : ExceptHandler} {hds : List ExceptHandler} {l : List Cl} {pos : Pos} {tb : WX → TS} {Wout : WX} (hN : X.N.Nodup) (tk : Takes X Wout)
    (hb : ∀ (W : WX) (pn : List (Addr × Obj)) (xe : Value → Shared → Prop), Takes (X.tr pn xe) W → PassesOwn (model X.prog X.w) X.A X.env xe → PSs (X.tr pn xe) body (tb W)) (hh : ClOk X (h₀ :: hds) l)
    (hs : X.stack = X.env :: X.outer := by rfl) (hf : X.env.frame = some X.env.locals := by rfl) : PS X (.Try body (h₀ :: hds) [] [] pos) (fun D σ H => tb (wCl X.K Wout D l) D σ H) := by
  refine ⟨fun pins s σ H D I hq => ?_⟩
  have ok := I.ok
  have frames : X.A.frames = some (X.env :: X.outer) := by rw [ok.frames, hs]
  let caught : Value → Shared → Prop := fun e s₁ => wpAny (model X.prog X.w) X.A (noteFrame e X.env) (fun _ s₂ => wpAny (model X.prog X.w) X.A (setFlight e none) (fun _ s₃ =>
    wpAny (model X.prog X.w) X.A (handleBy e X.env (h₀ :: hds)) (SP X pins D) X.xe s₃) X.xe s₂) X.xe s₁
  have land : Takes (X.tr (X.pn ++ pins) caught) (wCl X.K Wout D l) := by
    intro u s' xx
    obtain ⟨a, B, sI, pins', σ', H', cls, d, rfl, J', nb, up, sky, na, os, ag, w⟩ := xx
    have J : Inv X pins σ' H' sI := J'.ofTry ok
    show wpAny (model X.prog X.w) X.A (noteFrame (.ref a) X.env) _ _ _
    refine Sky.land Zc.steady frames hf (by rw [← hs]; exact sky) fun h3 fl3 up3 => ?_
    have J3 : Inv X pins σ' H' { s' with heap := h3 } := J.landed nb fl3.1 (up.trans up3) os ag
    obtain ⟨o3, vs3, g3, z3, d3⟩ := fl3.there
    have off : a ∉ frs (X.env :: X.outer) := fun hm => by
      obtain ⟨_, o', e', hnf⟩ := fl3.2.2.1.mem hm
      rw [g3] at e'
      cases e'
      exact hnf _ d3
    have nL : a ≠ X.env.locals := fun z => off (List.mem_filterMap.mpr ⟨X.env, List.mem_cons_self, by rw [hf, z]⟩)
    have nF : a ∉ X.fs := fun hm => by
      obtain ⟨e, he, q⟩ := List.mem_filterMap.mp hm
      exact off (List.mem_filterMap.mpr ⟨e, List.mem_cons_of_mem _ he, q⟩)
    have S3 := J3.suite g3 d3 na nL nF
    have look : PySem.W.Looks (model X.prog X.w) h3 (typeOf (.ref a)) cls := fun A Q E s k q => wpAny_typeOf_ref (k _ _ g3) (by rw [z3.1]; exact q)
    /- the class named by a clause -/
    have name : ∀ {x : Str} {c : Value} {np : Pos} {Q : Value → Shared → Prop} {E : Value → Shared → Prop}, Names X x c → Q c { s' with heap := h3 } → wpAny (model X.prog X.w) (X.A.mark (some (.ref a))) (eval (.Name x np) X.env) Q E { s' with heap := h3 } := fun {x c np Q E} hc q => by
      obtain ⟨hg, hdb, hm | ⟨hm, hv, hn⟩⟩ := hc
      · exact ld_glob (X := X.suite a ((a, o3) :: (X.pn ++ pins))) S3 hg hm q hdb
      · exact ld_blt (X := X.suite a ((a, o3) :: (X.pn ++ pins))) S3 hg hm hv q hn hdb
    have clauses : ∀ {hs' : List ExceptHandler} {l' : List Cl}, ClOk X hs' l' → wCl X.K Wout D l' cls d σ' H' → wpAny (model X.prog X.w) X.A (handleBy (.ref a) X.env hs') (SP X pins D) X.xe { s' with heap := h3 } := by
      intro hs' l' hk
      induction hk with
      | nil =>
        intro w
        refine wpAny_handleBy_nil ?_
        obtain ⟨_, _, _, _, _, T, _, _, he, _, hd, h1, _⟩ := id fl3
        unfold PySem.passOn
        refine wpAny_bind (wpAny_field he hd h1 ?_)
        rw [if_neg (show ¬ ((Value.ref T == Value.none) = true) from by simp)]
        have out : wpAny (model X.prog X.w) X.A (setFlight (.ref a) X.env.frame) (fun _ s4 => wpAny (model X.prog X.w) X.A (throw (.ref a) : Sem Flow) (SP X pins D) X.xe s4) X.xe { s' with heap := h3 } := by
          rw [hf]
          exact HandSPX.setFlight_upZ fl3 fun h4 hh4 up4 => wpAny_throw (tk _ _ ⟨a, B, sI, pins, σ', H', cls, d, rfl, J, nb, (up.trans up3).trans up4, .inr (.inr (by rw [hs]; exact hh4)), na, os, ag, w⟩)
        first
          | exact wpAny_bind (wpAny_pure (wpAny_bind out))
          | exact wpAny_bind out
      | @bare x c ts b suite np pos hs2 l2 hc hsu r ih =>
        rintro ⟨yes, hx, hyes, hno⟩
        refine wpAny_handleBy_cons (codeAny_handlers_test (name hc ((PySem.W.exm_one (M := model X.prog X.w) J3.kIn look hx).here ?_))) (by intro q; cases q)
        cases yes with
        | false => exact ih (hno rfl)
        | true =>
          refine codeAny_handlers_suite (HandSPX.lands_againZ fl3 fun h4 fl4 up4 => ?_)
          obtain ⟨o4, vs4, g4, z4, d4⟩ := fl4.there
          have S4 := (J.landed nb fl4.1 ((up.trans up3).trans up4) os ag : Inv X pins σ' H' { s' with heap := h4 }).suite g4 d4 na nL nF
          refine wpAny_mono ((hsu a o4 cls d (X.pn ++ pins) z4 ⟨_, d4⟩).run [] _ _ H' _ S4 (hyes rfl a na)) (fun f s6 hsp => ?_) (fun _ _ z => False.elim z)
          cases f with
          | next => exact let ⟨_, _, S6, q6⟩ := hsp; ⟨_, _, S6.unsuite ok, q6⟩
          | brk => exact let ⟨_, _, S6, q6⟩ := hsp; ⟨_, _, S6.unsuite ok, q6⟩
          | cont => exact let ⟨_, _, S6, q6⟩ := hsp; ⟨_, _, S6.unsuite ok, q6⟩
          | ret u => exact let ⟨_, _, _, S6, r6, q6⟩ := hsp; ⟨_, _, _, S6.unsuite ok, r6, q6⟩
      | @named x n c i ts b suite np pos hs2 l2 hc hi hln hsu r ih =>
        rintro ⟨yes, hx, hyes, hno⟩
        refine wpAny_handleBy_cons (codeAny_handlers_test (name hc ((PySem.W.exm_one (M := model X.prog X.w) J3.kIn look hx).here ?_))) (by intro q; cases q)
        cases yes with
        | false => exact ih (hno rfl)
        | true =>
          refine codeAny_handlers_suite_as (HandSPX.lands_againZ fl3 fun h4 fl4 up4 => ?_)
          obtain ⟨o4, vs4, g4, z4, d4⟩ := fl4.there
          have S4 := (J.landed nb fl4.1 ((up.trans up3).trans up4) os ag : Inv X pins σ' H' { s' with heap := h4 }).suite g4 d4 na nL nF
          refine store_ok (X := X.suite a ((a, o4) :: (X.pn ++ pins))) (v := .ref a) S4 hN hi (.inl hln) rfl (fun s5 S5 => ?_) (.inr hln)
          refine wpAny_mono ((hsu a o4 cls d (X.pn ++ pins) z4 ⟨_, d4⟩).run [] s5 _ H' _ S5 (hyes rfl a na)) (fun f s6 hsp => ?_) (fun _ _ z => False.elim z)
          have leave : ∀ {σ6 : L2.St} {H6 : Hp} {Q : Shared → Prop}, Inv (X.suite a ((a, o4) :: (X.pn ++ pins))) [] σ6 H6 s6 → (∀ s7, Inv X pins (σ6.set i none) H6 s7 → Q s7) →
              wpAny (model X.prog X.w) X.A (do bindName X.env n .none; unbindBehindTheSuite X.env n pos) (fun _ s7 => Q s7) X.xe s6 := fun S6 hq => gone_ok (S6.unsuite ok) hN hi hln hq
          cases f with
          | next => exact let ⟨_, _, S6, q6⟩ := hsp; leave S6 fun s7 J7 => ⟨_, _, J7, q6⟩
          | brk => exact let ⟨_, _, S6, q6⟩ := hsp; leave S6 fun s7 J7 => ⟨_, _, J7, q6⟩
          | cont => exact let ⟨_, _, S6, q6⟩ := hsp; leave S6 fun s7 J7 => ⟨_, _, J7, q6⟩
          | ret u => exact let ⟨_, _, _, S6, r6, q6⟩ := hsp; leave S6 fun s7 J7 => ⟨_, _, _, J7, r6, q6⟩
    exact clauses hh w
  refine wpAny_Try_except (wpAny_mono ((hb (wCl X.K Wout D l) (X.pn ++ pins) caught land PassesOwn.looking).run [] s σ H D (I.toTry _) hq) (fun f s1 hsp => ?_) (fun e s1 he => he))
  cases f with
  | next =>
    obtain ⟨σ', H', J', q⟩ := hsp
    exact wpAny_execs_nil ⟨σ', H', J'.ofTry ok, q⟩
  | brk => exact let ⟨σ', H', J', q⟩ := hsp; ⟨σ', H', J'.ofTry ok, q⟩
  | cont => exact let ⟨σ', H', J', q⟩ := hsp; ⟨σ', H', J'.ofTry ok, q⟩
  | ret u => exact let ⟨v, σ', H', J', r, q⟩ := hsp; ⟨v, σ', H', J'.ofTry ok, r, q⟩
def dTryC (K : Frag) (l : List (Str × Option Nat × (Addr → Value → Option Addr → TS))) (tb : WX → TS) (Wout : WX) : TS := fun D σ H => tb (wCl K Wout D (l.map fun k => ⟨.ref (He.ga K k.1), k.2.1, k.2.2⟩)) D σ H
/-- one clause asked -/
theorem cl_yes {K : Frag} {Wout : WX} {D : L2.Ends} {k : Cl} {r : List Cl} {cls : Value} {d : Option Addr} {σ : L2.St} {H : Hp} (h : PySem.W.exmOne K cls k.c = some true) (q : ∀ a, H a = none → k.run D a cls d σ H) : wCl K Wout D (k :: r) cls d σ H := ⟨true, h, fun _ => q, fun z => nomatch z⟩
theorem cl_no {K : Frag} {Wout : WX} {D : L2.Ends} {k : Cl} {r : List Cl} {cls : Value} {d : Option Addr} {σ : L2.St} {H : Hp} (h : PySem.W.exmOne K cls k.c = some false) (q : wCl K Wout D r cls d σ H) : wCl K Wout D (k :: r) cls d σ H := ⟨false, h, (fun z => nomatch z), fun _ => q⟩
/-- except A as e: .. except B: .. -/
theorem ps_try2 {X : Cx} {c1 c2 n : Str} {i : Nat} {body s1 s2 : List Stmt} {b1 b2 : Stmt} {np1 np2 p1 p2 pos : Pos} {tb : WX → TS} {ts1 ts2 : Addr → Value → Option Addr → TS} {Wout : WX} (hN : X.N.Nodup) (g1 : X.mg c1 = some (.ref (He.ga X.K c1))) (g2 : X.mg c2 = some (.ref (He.ga X.K c2))) (tk : Takes X Wout)
    (hb : ∀ (W : WX) (pn : List (Addr × Obj)) (xe : Value → Shared → Prop), Takes (X.tr pn xe) W → PassesOwn (model X.prog X.w) X.A X.env xe → PSs (X.tr pn xe) body (tb W)) (h1 : SuOk X (b1 :: s1) ts1) (h2 : SuOk X (b2 :: s2) ts2)
    (hs : X.stack = X.env :: X.outer := by rfl) (hf : X.env.frame = some X.env.locals := by rfl) (hi : X.N[i]? = some n := by rfl) (hln : X.env.kindOf n = some .local := by rfl) (hg1 : Gl X c1 := by rfl) (hg2 : Gl X c2 := by rfl) (hd1 : (c1 == ("__debug__" : Str)) = false := by decide) (hd2 : (c2 == ("__debug__" : Str)) = false := by decide) :
    PS X (.Try body [.ExceptHandler (some (.Name c1 np1)) (some n) (b1 :: s1) p1, .ExceptHandler (some (.Name c2 np2)) none (b2 :: s2) p2] [] [] pos) (dTryC X.K [(c1, some i, ts1), (c2, none, ts2)] tb Wout) :=
  ps_try_cl hN tk hb (.named ⟨hg1, hd1, .inl g1⟩ hi hln h1 (.bare ⟨hg2, hd2, .inl g2⟩ h2 .nil)) hs hf
end S
namespace S
open PySem PySem.Spec PyProof.Rows L2
structure PopAt (xs : List V) (i : Int) (k : V → List V → Prop) : Prop where
  ex : ∃ (j : Nat) (y : V), i = j ∧ xs[j]? = some y ∧ xs.length ≤ sizeLine ∧ k y (xs.eraseIdx j)
def mPopAt : M2 := mL fun xs vs _ k => match vs with
  | [.int i] => PopAt xs i k
  | _ => False
theorem m_popAt {X : Cx} : MtR X "list.pop" mPopAt := MtR.of mt_popAt fun x vs H Q q => by
  cases x <;> try exact q.elim
  match vs, q with
  | [.int i], ⟨⟨xs, h, hp⟩⟩ =>
    obtain ⟨j, y, hi, hy, hz, q⟩ := hp.ex
    subst hi
    have hj := (List.getElem?_eq_some_iff.mp hy).1
    rw [sizeLine_eq] at hz
    refine ⟨_, xs, (j : Int), j, y, rfl, rfl, h, by omega, by omega, ?_, hy, q⟩
    unfold seqIndex?
    have h0 : ¬ (j : Int) < 0 := by omega
    have h1 : (0 : Int) ≤ (j : Int) := by omega
    have h2 : (j : Int) < (xs.length : Int) := by omega
    simp [h0, h1, h2, hj]
/-- a method of a text -/
def dMS (r : V → List V → Hp → VK → Prop) (to : TE) (t : TA) : TE := fun σ H Q => to σ H fun x H1 => match x with
  | .str l => t σ H1 fun vs H2 => r (.str l) vs H2 Q
  | _ => False
theorem pe_ms {X : Cx} {o e : Expr} {es : List Expr} {to : TE} {t : TA} {name : Str} {apos cpos : Pos} {id : String} {r : V → List V → Hp → VK → Prop} (slot : Slot "str" name id) (hty : typeOf (.builtin id) = pure (.type "method_descriptor")) (hm : MtR X id r) (ho : PE X o to) (ha : PA X (e :: es) t)
    (hbase : attributeBase o name X.env (eval o X.env) = eval o X.env := by rfl)
    (hfew : ((backTo cpos (starEach (e :: es) X.env)).all (fun x => !x.1) && (backToKw cpos (keywordEach [] X.env)).all (fun x => x.1.isSome)
      && decide ((e :: es).length + ([] : List Keyword).length + (if ([] : List Keyword).isEmpty then 0 else 1) < 30)) = true := by rfl)
    (hline : (apos.endLine == cpos.line) = true := by rfl) (hs : starEach (e :: es) X.env = (false, eval e X.env) :: starEach es X.env := by rfl) (hplain : (backTo cpos (starEach es X.env)).any (·.1) = false := by rfl) :
    PE X (.Call (.Attribute o name apos) (e :: es) [] cpos) (dMS r to t) := by
  refine ⟨fun pins s σ H Q I h => ?_⟩
  refine wpAny_Call_method_late hbase hfew hline rfl (thn (ho.run pins s σ H _ I h) fun v s1 ⟨x, H1, I1, r1, q1⟩ => ?_)
  cases x <;> try exact q1.elim
  obtain ⟨h1, h2⟩ := tyV_is (T := "str") I1 r1 rfl
  refine ⟨"str", id, PySem.F.plainAttrs_str, slot, hty, h1, h2, ?_⟩
  have hA := ha.run cpos pins s1 σ H1 _ I1 q1
  rw [hs] at hA ⊢
  refine Calls.callWith_builtin (by show (false || (backTo cpos (starEach es X.env)).any (·.1)) = false; rw [hplain] <;> rfl) (Calls.evalArgs_plain ?_)
  exact thn hA fun us s2 ⟨vs, H2, I2, r2, q2⟩ => hm pins s2 σ H2 _ vs _ us Q I2 r1 r2 q2
structure JoinS (K : Frag) (a : Str) (H : Hp) (p : Addr) (Q : VK) : Prop where
  ex : ∃ ys : List Str, SqA K H p (ys.map V.str) ∧ (ys.map (·.length)).sum + ys.length * a.length ≤ 16777216 ∧ Q (.str (Txt.join a ys)) H
def mJoin (K : Frag) : V → List V → Hp → VK → Prop := fun x vs H Q => match x, vs with
  | .str a, [.ref p] => JoinS K a H p Q
  | _, _ => False
theorem m_join {X : Cx} : MtR X "str.join" (mJoin X.K) := MtR.of mt_join fun x vs H Q q => by
  cases x <;> try exact q.elim
  match vs, q with
  | [.ref p], ⟨⟨ys, h1, h2, h3⟩⟩ => exact ⟨_, p, ys, rfl, rfl, h1, h2, h3⟩
end S
namespace S
open PySem PySem.Spec PyProof.Rows L2
theorem pe_gstr {X : Cx} {x z : Str} {pos : Pos} (hg : Gl X x) (hm : ∃ t, X.mg x = some (.str z t)) (hd : (x == ("__debug__" : Str)) = false := by decide) : PE X (.Name x pos) (tC (.str z)) := by
  obtain ⟨t, e⟩ := hm
  exact pe_glob hg e ⟨t, rfl⟩ hd
theorem pe_gint {X : Cx} {x : Str} {i : Int} {pos : Pos} (hg : Gl X x) (hm : ∃ t, X.mg x = some (.int i t)) (hd : (x == ("__debug__" : Str)) = false := by decide) : PE X (.Name x pos) (tC (.int i)) := by
  obtain ⟨t, e⟩ := hm
  exact pe_glob hg e ⟨t, rfl⟩ hd
theorem maxOf_cons (x y : Int) (ys : List Int) : PySem.W.maxOf y (x :: ys) = PySem.W.maxOf (if y < x then x else y) ys := by
  show List.foldl _ (if decide (y < x) = true then x else y) ys = _
  by_cases h : y < x
  · rw [if_pos (decide_eq_true h), if_pos h]; rfl
  · rw [if_neg (fun z => h (of_decide_eq_true z)), if_neg h]; rfl
theorem maxOf_in : ∀ (ys : List Int) (y : Int), PySem.W.maxOf y ys ∈ y :: ys ∧ ∀ z ∈ y :: ys, z ≤ PySem.W.maxOf y ys
  | [], y => ⟨List.mem_cons_self .., fun z hz => by rw [List.mem_singleton.mp hz]; exact Int.le_refl _⟩
  | x :: ys, y => by
    have e := maxOf_cons x y ys
    by_cases h : y < x
    · rw [if_pos h] at e
      obtain ⟨h1, h2⟩ := maxOf_in ys x
      rw [e]
      refine ⟨List.mem_cons_of_mem _ h1, fun z hz => ?_⟩
      rcases List.mem_cons.mp hz with rfl | hz
      · have := h2 _ (List.mem_cons_self ..); omega
      · exact h2 z hz
    · rw [if_neg h] at e
      obtain ⟨h1, h2⟩ := maxOf_in ys y
      have h3 := h2 _ (List.mem_cons_self ..)
      rw [e]
      refine ⟨?_, fun z hz => ?_⟩
      · rcases List.mem_cons.mp h1 with h | h
        · rw [h]; exact List.mem_cons_self ..
        · exact List.mem_cons_of_mem _ (List.mem_cons_of_mem _ h)
      · rcases List.mem_cons.mp hz with rfl | hz
        · exact h3
        · rcases List.mem_cons.mp hz with rfl | hz
          · omega
          · exact h2 z (List.mem_cons_of_mem _ hz)
structure MaxD (K : Frag) (H : Hp) (p : Addr) (d : Int) (Q : VK) : Prop where
  ex : ∃ ns : List Int, SqL K H p (ns.map V.int) ∧ (ns = [] → Q (.int d) H) ∧ ∀ m ∈ ns, (∀ z ∈ ns, z ≤ m) → Q (.int m) H
def cMaxD (K : Frag) : List V → List V → Hp → VK → Prop := fun vs zs H Q => match vs, zs with
  | [.ref p], [.int d] => MaxD K H p d Q
  | _, _ => False
theorem c_maxD {X : Cx} (hc : X.calm = true) (hu : X.A.units + 64 < cLine) : CallRK X (.builtin "max") ["default"] (cMaxD X.K) := by
  intro pins s σ H xs zs us ws Q I r r2 h
  match xs, zs, h with
  | [.ref p], [.int d], ⟨⟨ns, hs, q0, q1⟩⟩ =>
    rw [Vals.ref1 r]
    obtain ⟨w, rfl, rw_⟩ := r2.one
    obtain ⟨its, rv, hl, hz⟩ := I.list hs
    have hold : PySem.W.HoldAll s.heap its.toArray.toList ns := by
      obtain ⟨as, h⟩ := Dp.readsAll I _ _ _ (dpAll_ints (K := X.K) (H := H) ns) rv
      exact ⟨as, h⟩
    show wpAny _ _ (call (.builtin "max") [.ref p] [(Str.ofString "default", w)]) _ _ _
    refine PySem.W.max_list_datum_default (I.ok.hd hc) hl.isList hold (by show X.A.units + 1 + 0 < cLine; omega) (fun e h' tk k => ?_) fun y ys i v h' tk e hv hh k => ?_
    · exact ⟨.int d, H, I.kept k, rw_, q0 e⟩
    · subst e
      obtain ⟨m1, m2⟩ := maxOf_in ys y
      refine ⟨.int (PySem.W.maxOf y ys), H, I.kept k, ?_, q1 _ m1 m2⟩
      obtain ⟨as, hr⟩ := hh
      cases hr
      exact ⟨_, rfl⟩
end S
namespace S
open PySem PySem.Spec PyProof.Rows L2
/-- the second loop of a comprehension whose list stands at D -/
def Lc2In (D : Addr) (g1 : TG) (tt1 : TT) (te : TE) (vs1 : List Nat) (σ2 : L2.St) (Nx : Hp → Prop) (J1 : It) (H4 : Hp) : Prop := ∃ W1 : Nat → Nat → Hp → Prop, (∃ m, W1 0 m H4) ∧ ∀ j k H, W1 j k H →
  (J1.stop j H ∧ Nx H) ∨ (J1.go j H ∧ ∃ Nx1 : Hp → Prop, (∀ H', Nx1 H' → ∃ k', k' < k ∧ W1 (j + 1) k' H') ∧ ∀ x H', J1.yld j H x H' → g1 x (wipe σ2 vs1) H' fun σ3 H5 => wipe σ3 vs1 = wipe σ2 vs1 ∧ tt1 σ3 H5 fun b H6 =>
    if b = true then te σ3 H6 fun y H7 => ∃ acc, H7 D = some (.lst acc) ∧ acc.length < sizeLine ∧ Nx1 (upd H7 D (.lst (acc ++ [y]))) else Nx1 H6)
def Lc2Go (g : TG) (tt : TT) (wi1 : TI) (g1 : TG) (tt1 : TT) (te : TE) (vs vs1 : List Nat) (σ : L2.St) (Q : VK) (J : It) (H1 : Hp) : Prop :=
  ∀ D, H1 D = none → ∃ W : Nat → Nat → Hp → Prop, (∃ m, W 0 m (upd H1 D (.lst []))) ∧ ∀ i m H, W i m H →
    (J.stop i H ∧ Q (.ref D) H) ∨ (J.go i H ∧ ∃ Nx : Hp → Prop, (∀ H', Nx H' → ∃ m', m' < m ∧ W (i + 1) m' H') ∧ ∀ x H', J.yld i H x H' → g x (wipe σ vs) H' fun σ2 H2 => wipe σ2 vs = wipe σ vs ∧ tt σ2 H2 fun b H3 =>
      if b = true then wi1 σ2 H3 (Wr (Lc2In D g1 tt1 te vs1 σ2 Nx)) else Nx H3)
def dLc2 (wi : TI) (g : TG) (tt : TT) (wi1 : TI) (g1 : TG) (tt1 : TT) (te : TE) (vs vs1 : List Nat) : TE := fun σ H Q => wi σ H (Wr (Lc2Go g tt wi1 g1 tt1 te vs vs1 σ Q))
section
variable {X : Cx} {elt tg iter tg1 iter1 : Expr} {ifs ifs1 : List Expr} {scope : Scope} {own : List (Str × Nat)} {vs1 : List Nat} {pos spos : Pos} {wi wi1 : TI} {g g1 : TG} {tt tt1 : TT} {te : TE}
theorem pe_lc2 (hc : X.calm = true) (hN : X.N.Nodup) (hi : PI X tg iter wi) (ok : BlkOk X.N X.env.scope scope own) (hv : ∀ i ∈ vs1, i ∈ own.map (·.2))
    (hg : ∀ (s : Shared) (H : Hp) (C : Addr) (cl : List (Str × Addr)) (fp : List Addr), PG (X.blk s H scope (compEnvC scope cl C X.env) fp) tg g) (ht : ∀ (s : Shared) (H : Hp) (C : Addr) (cl : List (Str × Addr)) (fp : List Addr), PTs (X.blk s H scope (compEnvC scope cl C X.env) fp) ifs tt)
    (hi1 : ∀ (s : Shared) (H : Hp) (C : Addr) (cl : List (Str × Addr)) (fp : List Addr), PI (X.blk s H scope (compEnvC scope cl C X.env) fp) tg1 iter1 wi1)
    (hg1 : ∀ (s : Shared) (H : Hp) (C : Addr) (cl : List (Str × Addr)) (fp : List Addr), PG (X.blk s H scope (compEnvC scope cl C X.env) fp) tg1 g1) (ht1 : ∀ (s : Shared) (H : Hp) (C : Addr) (cl : List (Str × Addr)) (fp : List Addr), PTs (X.blk s H scope (compEnvC scope cl C X.env) fp) ifs1 tt1)
    (he : ∀ (s : Shared) (H : Hp) (C : Addr) (cl : List (Str × Addr)) (fp : List Addr), PE (X.blk s H scope (compEnvC scope cl C X.env) fp) elt te) (hs : ∀ x, foldedSetIterable iter X.env x = pure x := by intro _; rfl) (hs1 : ∀ env x, foldedSetIterable iter1 env x = pure x := by intro _ _; rfl) :
    PE X (.ListComp elt [⟨tg, iter, ifs, 0⟩, ⟨tg1, iter1, ifs1, 0⟩] scope pos) (dLc2 wi g tt wi1 g1 tt1 te (own.map (·.2)) vs1) := L2.pe_lc2 hc hN (pi_wr hi) ok hv hg ht (fun s H C cl fp => pi_wr (hi1 s H C cl fp)) hg1 ht1 he hs hs1
theorem ps_setLc2 {i : Nat} {y : Str} {py : Pos} (hc : X.calm = true) (hN : X.N.Nodup) (hy : X.N[i]? = some y) (hyl : X.env.scope.names.lookup y = some .local)
    (hsw : swapsWith (.ListComp elt [⟨tg, iter, ifs, 0⟩, ⟨tg1, iter1, ifs1, 0⟩] scope pos) (some (.Name y py)) spos.line X.env = pure true) (hi : PI X tg iter wi) (ok : BlkOk X.N X.env.scope scope own) (hv : ∀ i ∈ vs1, i ∈ own.map (·.2))
    (hg : ∀ (s : Shared) (H : Hp) (C : Addr) (cl : List (Str × Addr)) (fp : List Addr), PG (X.blk s H scope (compEnvC scope cl C X.env) fp) tg g) (ht : ∀ (s : Shared) (H : Hp) (C : Addr) (cl : List (Str × Addr)) (fp : List Addr), PTs (X.blk s H scope (compEnvC scope cl C X.env) fp) ifs tt)
    (hi1 : ∀ (s : Shared) (H : Hp) (C : Addr) (cl : List (Str × Addr)) (fp : List Addr), PI (X.blk s H scope (compEnvC scope cl C X.env) fp) tg1 iter1 wi1)
    (hg1 : ∀ (s : Shared) (H : Hp) (C : Addr) (cl : List (Str × Addr)) (fp : List Addr), PG (X.blk s H scope (compEnvC scope cl C X.env) fp) tg1 g1) (ht1 : ∀ (s : Shared) (H : Hp) (C : Addr) (cl : List (Str × Addr)) (fp : List Addr), PTs (X.blk s H scope (compEnvC scope cl C X.env) fp) ifs1 tt1)
    (he : ∀ (s : Shared) (H : Hp) (C : Addr) (cl : List (Str × Addr)) (fp : List Addr), PE (X.blk s H scope (compEnvC scope cl C X.env) fp) elt te) (hs : ∀ x, foldedSetIterable iter X.env x = pure x := by intro _; rfl) (hs1 : ∀ env x, foldedSetIterable iter1 env x = pure x := by intro _ _; rfl) :
    PS X (.Assign [.Name y py] (.ListComp elt [⟨tg, iter, ifs, 0⟩, ⟨tg1, iter1, ifs1, 0⟩] scope pos) spos) (tAsg (dLc2 wi g tt wi1 g1 tt1 te (own.map (·.2)) vs1) (gName i)) := L2.ps_setLc2 hc hN hy hyl hsw (pi_wr hi) ok hv hg ht (fun s H C cl fp => pi_wr (hi1 s H C cl fp)) hg1 ht1 he hs hs1
end
/-- over a list or a tuple that stood at H0, by a word over (turn, heap) -/
theorem lc2_seq {K : Frag} {p : Addr} {xs : List V} {g : TG} {tt : TT} {wi1 : TI} {g1 : TG} {tt1 : TT} {te : TE} {vs vs1 : List Nat} {σ : L2.St} {H0 H1 : Hp} {Q : VK} (hx : SqA K H0 p xs) (e0 : Same H0 H1)
    (h : ∀ D, H1 D = none → ∃ Pv : Nat → Hp → Prop, Pv 0 (upd H1 D (.lst [])) ∧ (∀ i H, i ≤ xs.length → Pv i H → Same H0 H) ∧
      (∀ i x H, xs[i]? = some x → Pv i H → g x (wipe σ vs) H fun σ2 H2 => wipe σ2 vs = wipe σ vs ∧ tt σ2 H2 fun b H3 =>
        if b = true then wi1 σ2 H3 (Wr (Lc2In D g1 tt1 te vs1 σ2 (Pv (i + 1)))) else Pv (i + 1) H3) ∧ (∀ H, Pv xs.length H → Q (.ref D) H)) :
    Walk K H1 p (Wr (Lc2Go g tt wi1 g1 tt1 te vs vs1 σ Q)) := by
  rcases hx with hx | hx
  · refine ⟨.inl ⟨⟨xs, e0.seq hx⟩, ⟨fun D hD => ?_⟩⟩⟩
    obtain ⟨Pv, h0, hl, hs, hd⟩ := h D hD
    refine ⟨fun i m H => m = xs.length - i ∧ i ≤ xs.length ∧ Pv i H, ⟨xs.length, by simp, Nat.zero_le _, h0⟩, ?_⟩
    rintro i m H ⟨rfl, hi, p⟩
    have q := (hl i H hi p).seq hx
    by_cases hlt : i < xs.length
    · refine .inr ⟨⟨xs, xs[i], q, by simp [hlt]⟩, Pv (i + 1), fun H' p' => ⟨xs.length - (i + 1), by omega, rfl, hlt, p'⟩, fun x H' y => ?_⟩
      obtain ⟨e, y⟩ := y
      subst e
      exact hs i x _ (y xs q) p
    · have e : i = xs.length := by omega
      subst e
      exact .inl ⟨⟨xs, q, Nat.le_refl _⟩, hd H p⟩
  · refine ⟨.inr ⟨⟨xs, Same.tup e0 hx⟩, ⟨fun D hD => ?_⟩⟩⟩
    obtain ⟨Pv, h0, hl, hs, hd⟩ := h D hD
    refine ⟨fun i m H => m = xs.length - i ∧ i ≤ xs.length ∧ Pv i H, ⟨xs.length, by simp, Nat.zero_le _, h0⟩, ?_⟩
    rintro i m H ⟨rfl, hi, p⟩
    have q := Same.tup (hl i H hi p) hx
    by_cases hlt : i < xs.length
    · refine .inr ⟨⟨xs, xs[i], q, by simp [hlt]⟩, Pv (i + 1), fun H' p' => ⟨xs.length - (i + 1), by omega, rfl, hlt, p'⟩, fun x H' y => ?_⟩
      obtain ⟨e, y⟩ := y
      subst e
      exact hs i x _ (y xs q) p
    · have e : i = xs.length := by omega
      subst e
      exact .inl ⟨⟨xs, q, Nat.le_refl _⟩, hd H p⟩
/-- the second loop over a range -/
theorem lc2_rng {lo : Int} {n : Nat} {D : Addr} {g1 : TG} {tt1 : TT} {te : TE} {vs1 : List Nat} {σ2 : L2.St} {Nx : Hp → Prop} {H4 : Hp} (Pw : Nat → Hp → Prop) (h0 : Pw 0 H4)
    (hs : ∀ j H, j < n → Pw j H → g1 (.int (lo + j)) (wipe σ2 vs1) H fun σ3 H5 => wipe σ3 vs1 = wipe σ2 vs1 ∧ tt1 σ3 H5 fun b H6 =>
      if b = true then te σ3 H6 fun y H7 => ∃ acc, H7 D = some (.lst acc) ∧ acc.length < sizeLine ∧ Pw (j + 1) (upd H7 D (.lst (acc ++ [y]))) else Pw (j + 1) H6) (hd : ∀ H, Pw n H → Nx H) :
    Wr (Lc2In D g1 tt1 te vs1 σ2 Nx) (Itr lo n) H4 := by
  refine ⟨fun i m H => m = n - i ∧ i ≤ n ∧ Pw i H, ⟨n, by simp, Nat.zero_le _, h0⟩, ?_⟩
  rintro i m H ⟨rfl, hi, p⟩
  by_cases hlt : i < n
  · refine .inr ⟨hlt, Pw (i + 1), fun H' p' => ⟨n - (i + 1), by omega, rfl, hlt, p'⟩, fun x H' y => ?_⟩
    obtain ⟨e, y⟩ := y
    subst e y
    exact hs i _ hlt p
  · have e : i = n := by omega
    subst e
    exact .inl ⟨Nat.le_refl _, hd H p⟩
/-- the second loop over a list or a tuple -/
theorem lc2_in {K : Frag} {p : Addr} {xs : List V} {D : Addr} {g1 : TG} {tt1 : TT} {te : TE} {vs1 : List Nat} {σ2 : L2.St} {Nx : Hp → Prop} {H0 H4 : Hp} (hx : SqA K H0 p xs) (e0 : Same H0 H4) (Pw : Nat → Hp → Prop) (h0 : Pw 0 H4) (hl : ∀ j H, Pw j H → Same H0 H)
    (hs : ∀ j x H, xs[j]? = some x → Pw j H → g1 x (wipe σ2 vs1) H fun σ3 H5 => wipe σ3 vs1 = wipe σ2 vs1 ∧ tt1 σ3 H5 fun b H6 =>
      if b = true then te σ3 H6 fun y H7 => ∃ acc, H7 D = some (.lst acc) ∧ acc.length < sizeLine ∧ Pw (j + 1) (upd H7 D (.lst (acc ++ [y]))) else Pw (j + 1) H6) (hd : ∀ H, Pw xs.length H → Nx H) :
    Walk K H4 p (Wr (Lc2In D g1 tt1 te vs1 σ2 Nx)) := by
  rcases hx with hx | hx
  · refine ⟨.inl ⟨⟨xs, e0.seq hx⟩, ⟨?_⟩⟩⟩
    refine ⟨fun i m H => m = xs.length - i ∧ i ≤ xs.length ∧ Pw i H, ⟨xs.length, by simp, Nat.zero_le _, h0⟩, ?_⟩
    rintro i m H ⟨rfl, hi, p⟩
    have q := (hl i H p).seq hx
    by_cases hlt : i < xs.length
    · refine .inr ⟨⟨xs, xs[i], q, by simp [hlt]⟩, Pw (i + 1), fun H' p' => ⟨xs.length - (i + 1), by omega, rfl, hlt, p'⟩, fun x H' y => ?_⟩
      obtain ⟨e, y⟩ := y
      subst e
      exact hs i x _ (y xs q) p
    · have e : i = xs.length := by omega
      subst e
      exact .inl ⟨⟨xs, q, Nat.le_refl _⟩, hd H p⟩
  · refine ⟨.inr ⟨⟨xs, Same.tup e0 hx⟩, ⟨?_⟩⟩⟩
    refine ⟨fun i m H => m = xs.length - i ∧ i ≤ xs.length ∧ Pw i H, ⟨xs.length, by simp, Nat.zero_le _, h0⟩, ?_⟩
    rintro i m H ⟨rfl, hi, p⟩
    have q := Same.tup (hl i H p) hx
    by_cases hlt : i < xs.length
    · refine .inr ⟨⟨xs, xs[i], q, by simp [hlt]⟩, Pw (i + 1), fun H' p' => ⟨xs.length - (i + 1), by omega, rfl, hlt, p'⟩, fun x H' y => ?_⟩
      obtain ⟨e, y⟩ := y
      subst e
      exact hs i x _ (y xs q) p
    · have e : i = xs.length := by omega
      subst e
      exact .inl ⟨⟨xs, q, Nat.le_refl _⟩, hd H p⟩
end S
namespace S
open PySem PySem.Spec PyProof.Rows L2
structure LRg (a b : Int) (H : Hp) (Q : VK) : Prop where
  c : RgOk a b
  q : ∀ q, H q = none → Q (.ref q) (upd H q (.lst (rgV a b)))
def dLstR1 (ta : TE) : TE := fun σ H Q => ta σ H fun x H1 => match x with
  | .int n => LRg 0 n H1 Q
  | _ => False
theorem pe_lstR1 {X : Cx} {e : Expr} {ta : TE} {p p2 pos pos2 : Pos} (hc : X.calm = true) (hm : X.mg "list" = none) (hm2 : X.mg "range" = none) (ha : PE X e ta) (hg : Gl X "list" := by rfl) (hg2 : Gl X "range" := by rfl) (na : starEach [e] X.env = (false, eval e X.env) :: starEach [] X.env := by rfl)
    (na2 : starEach [.Call (.Name "range" p2) [e] [] pos2] X.env = (false, eval (.Call (.Name "range" p2) [e] [] pos2) X.env) :: starEach [] X.env := by rfl) : PE X (.Call (.Name "list" p) [.Call (.Name "range" p2) [e] [] pos2] [] pos) (dLstR1 ta) := by
  have h := pe_listRg (p := p) (pos := pos) hc hg hm (prg_1 (p := p2) (pos := pos2) hg2 hm2 (pe_up ha) na) na2
  refine PE.of h fun σ H Q q => ?_
  refine ⟨_, q, fun x H1 q1 => ?_⟩
  cases x <;> try exact q1.elim
  exact ⟨_, rfl, q1.c, q1.q⟩
/-- o.m(k = v, ..), o an instance with a dict -/
theorem pe_methDK0 {X : Cx} {k n : Nat} {g : Addr} {ks : List Str} {sp : Sp} {E : L2.St → XK} {c m : Str} {pos apos : Pos} {o : Expr} {kws : List Keyword} {tk : TA} {ta : TE} {gV : List V → List V → List V} {pl : Sem Bool} (hc : Cls X.K (He.ga X.K c)) (hm : Meth X.K (He.ga X.K c) m g) (F : FK X.prog X.w X.K X.mg X.base k g n ks sp gV) (hr : Room k X.A) (hx : ∀ σ, PassesAt (L2.CX X.prog X.w) X σ (E σ)) (he : PE X o ta) (hkw : PK X kws tk)
    (hall : (backToKw pos (keywordEach kws X.env)).all (·.1.isSome) = true := by rfl) (hks : (backToKw pos (keywordEach kws X.env)).filterMap (·.1) = ks := by rfl)
    (hpl : ((backTo pos (starEach [] X.env)).any (·.1) || (backToKw pos (keywordEach kws X.env)).any (·.1.isNone)) = false := by rfl)
    (ht : eval (.Call (.Attribute o m apos) [] kws pos) X.env = (do
      let ov ← eval o X.env
      standAt apos.atName
      let (f, first) ← holding [ov] (getMethod ov m pl)
      callWith pos f first (backTo pos (starEach [] X.env)) (backToKw pos (keywordEach kws X.env))) := by rfl) :
    PE X (.Call (.Attribute o m apos) [] kws pos) (dMethDK X.K c m n ks.length sp gV E ta tNil tk) := by
  refine ⟨fun pins s σ H Q I h => ?_⟩
  refine PySem.W.methodCall_KW (pl := pl) (thn (he.run pins s σ H _ I h) fun u s1 ⟨x, H1, I1, rx, q⟩ => ?_) ht
  cases x <;> try exact q.elim
  cases rx
  obtain ⟨⟨dx, fs, ea, l⟩, q⟩ := q
  refine getmeth_ok I1 ea hc hm l ?_
  refine PySem.W.callWith_KW0 (first := [.ref _]) (h₀ := X.base) I.ok.mod.kin hm.kp hall ?_ hpl
  refine thn (hkw.run pos pins s1 σ H1 _ I1 q) fun ws s3 ⟨zs, H3, I3, rz, l1, l2, q3⟩ => ⟨I3.kIn, ?_⟩
  rw [hks]
  exact run_FK (us := [.ref _]) (vs := [.ref _]) F hr (hx σ) I3 (.cons rfl .nil) rz (by simpa using l1) l2 q3
end S
namespace S
open PySem PySem.Spec PyProof.Rows L2
/-- the first difference decides, else the shorter is the less -/
def ltL : List Int → List Int → Bool := PySem.W.listLt
structure LeLs (K : Frag) (H : Hp) (a b : Addr) (k : Bool → Prop) : Prop where
  ex : ∃ xs ys : List Int, SqL K H a (xs.map V.int) ∧ SqL K H b (ys.map V.int) ∧ k (!ltL ys xs)
def oLeL (K : Frag) : R2 := fun x y H Q => match x, y with
  | .ref a, .ref b => LeLs K H a b fun r => Q (.bl r) H
  | x, y => oLe x y H Q
theorem o_leL {X : Cx} (hu : X.A.units + 64 < cLine) : OpR X (compareOp .LtE) (oLeL X.K) := by
  have h0 : OpR X (compareOp .LtE) oLe := o_le
  intro pins s σ H x y v u Q I rx ry q
  have two : ∀ a b, x = .ref a → y = .ref b → LeLs X.K H a b (fun r => Q (.bl r) H) → wpAny (model X.prog X.w) X.A (compareOp .LtE v u) (EP X pins σ Q) X.xe s := by
    intro a b ea eb h
    subst ea eb
    obtain ⟨xs, ys, hx, hy, q⟩ := h.ex
    have Ha : PySem.W.Holds s.heap v xs := by
      obtain ⟨as, h⟩ := Dp.reads I _ _ _ (.lst hx (dpAll_ints xs)) rx
      exact ⟨as, h⟩
    have Hb : PySem.W.Holds s.heap u ys := by
      obtain ⟨as, h⟩ := Dp.reads I _ _ _ (.lst hy (dpAll_ints ys)) ry
      exact ⟨as, h⟩
    exact PySem.W.le_datum Ha Hb (by show X.A.units + (0 + 1) < cLine; omega) ⟨.bl _, H, I, rfl, q⟩
  cases x <;> cases y <;> first
    | exact two _ _ rfl rfl q
    | exact h0 pins s σ H _ _ v u Q I rx ry q
end S
namespace S
open PySem PySem.Spec PyProof.Rows L2
/-! ### a new one -/
structure NewD (H : Hp) (u : HO) (Q : VK) : Prop where
  go : ∀ p, H p = none → Q (.ref p) (upd H p u)
def dNewK : TE := fun _ H Q => NewD H (.dK []) Q
theorem pe_newK {X : Cx} {pos : Pos} : PE X (.Dict [] [] pos) dNewK := PE.of pe_dnewK fun σ H Q q => q.go
def dNewT : TE := fun _ H Q => NewD H (.dT []) Q
theorem pe_newT {X : Cx} {pos : Pos} : PE X (.Dict [] [] pos) dNewT := PE.of pe_dnewT fun σ H Q q => q.go
/-! ### d[k] -/
structure DG (H : Hp) (a : Addr) (y : V) (k : V → Prop) : Prop where
  ex : ∃ v, DGet H a y (some v) ∧ k v
theorem dget_k {H : Hp} {a : Addr} {kvs : List (Key × V)} {k : Key} {o : Option V} (e : L2.Rd H a (.dK kvs)) (l : valV kvs k = o) : DGet H a (kV k) o := .inl ⟨kvs, k, e, rfl, l.symm⟩
theorem DG.s {H : Hp} {a : Addr} {kvs : List (Key × V)} {z : Str} {v : V} {k : V → Prop} (e : L2.Rd H a (.dK kvs)) (l : valV kvs (.inr z) = some v) (q : k v) : DG H a (.str z) k := ⟨v, dget_k (k := .inr z) e l, q⟩
def oIxD (K : Frag) : R2 := fun x y H Q => match x, y with
  | .ref a, .str z => DG H a (.str z) fun v => Q v H
  | .ref a, .ref b => DG H a (.ref b) fun v => Q v H
  | x, y => oIx K x y H Q
theorem ix_dict {X : Cx} (hu : X.A.units + 64 < cLine) : IxR X (oIxD X.K) := by
  intro e1 e2 pins s σ H x y v u Q I rx ry q hs
  have two : ∀ a, x = .ref a → DG H a y (fun v => Q v H) → wpAny (model X.prog X.w) X.A (subscriptTail e1 e2 v u) (EP X pins σ Q) X.xe s := by
    intro a ea h9
    obtain ⟨z, g, q9⟩ := h9.ex
    subst ea
    cases rx
    exact tail_any (dict_typeIs I g) PySem.F.slot_dict_getitem.lookup (d_getItem (by omega) I g ry fun w' s' I' rw' => ⟨z, H, I', rw', q9⟩) hs
  cases x <;> cases y <;> first
    | exact two _ rfl q
    | exact ix_any e1 e2 pins s σ H _ _ v u Q I rx ry q hs
/-! ### k in d -/
structure DIn (H : Hp) (a : Addr) (y : V) (k : Bool → Prop) : Prop where
  ex : ∃ o, DGet H a y o ∧ k o.isSome
theorem DIn.s {H : Hp} {a : Addr} {kvs : List (Key × V)} {z : Str} {k : Bool → Prop} (e : L2.Rd H a (.dK kvs)) (q : k (valV kvs (.inr z)).isSome) : DIn H a (.str z) k := ⟨_, dget_k (k := .inr z) e rfl, q⟩
def oInD (K : Frag) : R2 := fun x y H Q => match y with
  | .ref a => DIn H a x fun b => Q (.bl b) H
  | y => oIn K x y H Q
theorem o_inD {X : Cx} (hu : X.A.units + 64 < cLine) : OpR X (compareOp .In) (oInD X.K) := by
  intro pins s σ H x y v u Q I rx ry q
  cases y with
  | ref a =>
    obtain ⟨⟨o, g, q⟩⟩ := q
    cases ry
    exact d_in (by omega) I g rx fun s' I' => ⟨.bl o.isSome, H, I', rfl, q⟩
  | _ => exact o_in pins s σ H x _ v u Q I rx ry q
def oNinD (K : Frag) : R2 := fun x y H Q => match y with
  | .ref a => DIn H a x fun b => Q (.bl (!b)) H
  | y => oNin K x y H Q
theorem o_ninD {X : Cx} (hu : X.A.units + 64 < cLine) : OpR X (compareOp .NotIn) (oNinD X.K) := by
  intro pins s σ H x y v u Q I rx ry q
  cases y with
  | ref a =>
    obtain ⟨⟨o, g, q⟩⟩ := q
    cases ry
    exact d_notIn (by omega) I g rx fun s' I' => ⟨.bl (!o.isSome), H, I', rfl, q⟩
  | _ => exact o_nin pins s σ H x _ v u Q I rx ry q
/-! ### d[k] = v -/
structure StD (H : Hp) (a : Addr) (i v : V) (k : Hp → Prop) : Prop where
  ex : ∃ H', DPut H a i v H' ∧ k H'
theorem StD.s {H : Hp} {a : Addr} {kvs : List (Key × V)} {z : Str} {v : V} {k : Hp → Prop} (e : H a = some (.dK kvs)) (hl : kvs.length < sizeLine) (q : k (upd H a (.dK (putK kvs (.inr z) v)))) : StD H a (.str z) v k := ⟨_, DPut.k (k := .inr z) e hl, q⟩
def oSetD : V → V → V → Hp → (Hp → Prop) → Prop := fun o i v H Q => match o, i with
  | .ref a, .str z => StD H a (.str z) v Q
  | .ref a, .ref b => StD H a (.ref b) v Q
  | o, i => oSet o i v H Q
theorem s_dict {X : Cx} (hu : X.A.units + 64 < cLine) : PSet X oSetD := by
  intro pins s σ H o i v uo ui uv Q I ro ri rv q
  have two : ∀ a, o = .ref a → StD H a i v Q → wpAny (model X.prog X.w) X.A (setItem uo ui uv) (fun x s' => ∃ H', L2.Inv X pins σ H' s' ∧ Q H') X.xe s := by
    intro a ea h9
    obtain ⟨H', g, q9⟩ := h9.ex
    exact set_dict (X := X) (by omega) pins s σ H o i v uo ui uv Q I ro ri rv ⟨a, H', ea, g, q9⟩
  cases o <;> cases i <;> first
    | exact two _ rfl q
    | exact s_list pins s σ H _ _ v uo ui uv Q I ro ri rv q
/-! ### d.get(k, x) -/
structure IsDc (H : Hp) (a : Addr) (q : Prop) : Prop where
  c : L2.IsD H a
  q : q
structure DGo (H : Hp) (a : Addr) (y : V) (k : Option V → Prop) : Prop where
  ex : ∃ o, DGet H a y o ∧ k o
theorem DGo.s {H : Hp} {a : Addr} {kvs : List (Key × V)} {z : Str} {k : Option V → Prop} (e : L2.Rd H a (.dK kvs)) (q : k (valV kvs (.inr z))) : DGo H a (.str z) k := ⟨_, dget_k (k := .inr z) e rfl, q⟩
def dGetD (td ty tx : TE) : TE := fun σ H Q => td σ H fun x H1 => match x with
  | .ref a => IsDc H1 a (ty σ H1 fun y H2 => tx σ H2 fun z H3 => DGo H3 a y fun o => Q (o.getD z) H3)
  | _ => False
theorem pe_getD {X : Cx} {o e f : Expr} {apos cpos : Pos} {td ty tx : TE} (hu : X.A.units + 64 < cLine) (ho : PE X o td) (he : PE X e ty) (hf : PE X f tx) (hb : attributeBase o "get" X.env (eval o X.env) = eval o X.env := by rfl)
    (hfew : ((backTo cpos (starEach [e, f] X.env)).all (fun x => !x.1) && (backToKw cpos (keywordEach [] X.env)).all (fun x => x.1.isSome)
      && decide (([e, f] : List Expr).length + ([] : List Keyword).length + (if ([] : List Keyword).isEmpty then 0 else 1) < 30)) = true := by rfl) (hline : (apos.endLine == cpos.line) = true := by rfl) (htr : backTo cpos (starEach [e, f] X.env) = [(false, eval e X.env), (false, eval f X.env)] := by rfl) :
    PE X (.Call (.Attribute o "get" apos) [e, f] [] cpos) (dGetD td ty tx) := by
  have h := pe_dget2 (by omega) (pe_up ho) (pe_up he) (pe_up hf) ⟨hb, hfew, hline, htr⟩
  refine PE.of h fun σ H Q q => ?_
  refine ⟨_, q, fun x H1 q1 => ?_⟩
  cases x <;> try exact q1.elim
  obtain ⟨c, q1⟩ := q1
  refine ⟨_, rfl, c, ?_⟩
  refine ⟨_, q1, fun y H2 q2 => ?_⟩
  refine ⟨_, q2, fun z H3 q3 => ?_⟩
  exact q3.ex
/-! ### tuples whose very object is known -/
def TupF (H : Hp) (a : Addr) (xs : List V) : Prop := ∃ o : Obj, H a = some (.frz o (.tup xs)) ∧ o.cls = .type "tuple" ∧ o.dict = none
theorem TupF.t {K : Frag} {H : Hp} {a : Addr} {xs : List V} (h : TupF H a xs) : SqT K H a xs := let ⟨o, h, _⟩ := h; .inl (.inr ⟨o, h⟩)
theorem TupF.same {H H' : Hp} {a : Addr} {xs : List V} (h : TupF H a xs) (e : Same H H') : TupF H' a xs := let ⟨o, h, c⟩ := h; ⟨o, e _ _ h, c⟩
theorem TupF.x {H H' : Hp} {a st : Addr} {xs : List V} (h : TupF H a xs) (e : SameX st H H') (n : ∀ o u, H st ≠ some (.frz o u)) : TupF H' a xs := let ⟨o, h, c⟩ := h; ⟨o, e _ _ h fun z => n _ _ (z ▸ h), c⟩
structure NewTF (H : Hp) (ys : List V) (Q : VK) : Prop where
  go : ∀ p H', Same H H' → H p = none → TupF H' p ys → Q (.ref p) H'
structure LsQ (K : Frag) (H : Hp) (p : Addr) (k : List V → Prop) : Prop where
  ex : ∃ xs, SqL K H p xs ∧ k xs
theorem LsQ.of {K : Frag} {H : Hp} {p : Addr} {k : List V → Prop} {xs : List V} (h : H p = some (.lst xs)) (q : k xs) : LsQ K H p k := ⟨xs, SqL.of h, q⟩
def cTupleF (K : Frag) : List V → Hp → VK → Prop := fun xs H Q => match xs with
  | [.ref p] => LsQ K H p fun ys => NewTF H ys Q
  | _ => False
theorem c_tupleF {X : Cx} : CallR X (.type "tuple") (cTupleF X.K) := by
  intro pins s σ H xs us Q I r h
  match xs, h with
  | [.ref p], ⟨⟨ys, hq, q⟩⟩ =>
    rw [Vals.ref1 r]
    obtain ⟨its, r', pl, hz⟩ := I.list hq
    have hlen := r'.length
    refine call_tuple_list pl.isList (fun h' kp => ?_) (by simp only [List.size_toArray] <;> omega)
    have I1 : Inv X pins σ H { s with heap := h' } := I.kept (t' := s.toks) kp
    have ho : (h'.push { cls := .type "tuple", data := .seq its.toArray }).get? h'.objs.size = some { cls := .type "tuple", data := .seq its.toArray } := Heap.get?_push_size _ rfl
    have I2 : Inv X pins σ (upd H h'.objs.size (.frz { cls := .type "tuple", data := .seq its.toArray } (.tup ys))) { s with heap := h'.push { cls := .type "tuple", data := .seq its.toArray } } :=
      I1.laid (t' := s.toks) (fun b o e => Heap.get?_push_of_some _ e) (Nat.le_refl _) (show ObjOk X.prog X.w _ _ _ (.frz _ (.tup ys)) from ⟨ho, hz, its, r', IsTup.new _ _⟩)
    have hn := I1.hok.fresh (Nat.le_refl h'.objs.size)
    exact ⟨.ref h'.objs.size, _, I2, rfl, q.go _ _ (same_new hn) hn ⟨_, upd_same, rfl, rfl⟩⟩
/-! ### dict(a tuple of pairs), dict(a list of pairs), dict(a dict) -/
structure DictC (K : Frag) (H : Hp) (a : Addr) (Q : VK) : Prop where
  ex : (∃ (ps : List Addr) (kvs : List (Key × V)), (TupF H a (ps.map V.ref) ∨ SqL K H a (ps.map V.ref)) ∧ Paired (fun p kv => SqT K H p [kV kv.1, kv.2]) ps kvs ∧ ∀ p, H p = none → Q (.ref p) (upd H p (.dK (mergeK [] kvs)))) ∨
    ∃ kvs : List (Key × V), L2.Rd H a (.dK kvs) ∧ ∀ p, H p = none → Q (.ref p) (upd H p (.dK kvs))
theorem DictC.t {K : Frag} {H : Hp} {a : Addr} {Q : VK} {ps : List Addr} {kvs : List (Key × V)} (h : TupF H a (ps.map V.ref)) (hp : Paired (fun p kv => SqT K H p [kV kv.1, kv.2]) ps kvs) (q : ∀ p, H p = none → Q (.ref p) (upd H p (.dK (mergeK [] kvs)))) : DictC K H a Q := ⟨.inl ⟨ps, kvs, .inl h, hp, q⟩⟩
theorem DictC.d {K : Frag} {H : Hp} {a : Addr} {Q : VK} {kvs : List (Key × V)} (h : L2.Rd H a (.dK kvs)) (q : ∀ p, H p = none → Q (.ref p) (upd H p (.dK kvs))) : DictC K H a Q := ⟨.inr ⟨kvs, h, q⟩⟩
def cDict (K : Frag) : List V → Hp → VK → Prop := fun xs H Q => match xs with
  | [.ref a] => DictC K H a Q
  | _ => False
theorem refs_at2 : ∀ {ps : List Addr} {us : List Value}, Vals (ps.map V.ref) us → us = ps.map Value.ref
  | [], _, h => by cases h; rfl
  | p :: ps, _, h => by
    cases h with
    | cons r t => cases r; rw [refs_at2 t]; rfl
theorem c_dict {X : Cx} (hc : X.calm = true) : CallR X (.type "dict") (cDict X.K) := by
  intro pins s σ H xs us Q I r h
  match xs, h with
  | [.ref a], ⟨h⟩ =>
    rcases h with ⟨ps, kvs, ht | hl, hp, q⟩ | ⟨kvs, hd, q⟩
    · rw [Vals.ref1 r]
      obtain ⟨o, ho, c1, c2⟩ := ht
      obtain ⟨hg, hz, its, rv, o2, ho2, _, n, hdat⟩ := I.hok _ _ ho
      rw [hg] at ho2
      injection ho2 with ho2
      subst ho2
      have ei := refs_at2 rv
      subst ei
      rw [List.length_map] at hz
      obtain ⟨prs, rel, hl, hpr⟩ := pairs_of I hp
      have hu : ∀ (j : Nat) (q : Key × Value), prs[j]? = some q → ∃ u : Value, ∃ b, ps[j]? = some b ∧ IsTup s.heap b #[u, q.2] ∧ keyIs q.1 u = true := fun j q e => let ⟨b, u, h⟩ := hpr j q e; ⟨u, b, h⟩
      let kf : Nat → Value := fun j => match e : prs[j]? with | some q => (hu j q e).choose | none => .none
      have kfs : ∀ (j : Nat) (q : Key × Value), prs[j]? = some q → ∃ b, ps[j]? = some b ∧ IsTup s.heap b #[kf j, q.2] ∧ keyIs q.1 (kf j) = true := fun j q e => by
        have hk : kf j = (hu j q e).choose := by
          show (match e : prs[j]? with | some q => (hu j q e).choose | none => .none) = _
          split
          · rename_i q2 e2
            have : q2 = q := Option.some.inj (e2.symm.trans e)
            subst this
            rfl
          · rename_i e2
            rw [e] at e2; cases e2
        rw [hk]
        exact (hu j q e).choose_spec
      let pv : List (Value × Value) := (List.range prs.length).filterMap fun j => (prs[j]?).map fun q => (kf j, q.2)
      have pvl : ∀ j, pv[j]? = (prs[j]?).map fun q => (kf j, q.2) := fun j => by
        have gen : ∀ n, n ≤ prs.length → ((List.range n).filterMap fun j => (prs[j]?).map fun q => (kf j, q.2)) = (List.range n).map fun j => (kf j, ((prs[j]?).map (·.2)).getD .none) := fun n hn => by
          induction n with
          | zero => rfl
          | succ n ih =>
            have hg : prs[n]? = some prs[n] := List.getElem?_eq_getElem (by omega)
            rw [List.range_succ, List.filterMap_append, ih (by omega), List.map_append]
            simp [hg]
        show ((List.range prs.length).filterMap _)[j]? = _
        rw [gen _ (Nat.le_refl _), List.getElem?_map]
        by_cases hj : j < prs.length
        · rw [List.getElem?_range hj]
          simp [List.getElem?_eq_getElem hj]
        · rw [List.getElem?_eq_none (by rw [List.length_range]; omega), List.getElem?_eq_none (by omega)]; rfl
      have pvn : pv.length = prs.length := by
        have h1 : pv[prs.length]? = none := by rw [pvl, List.getElem?_eq_none (Nat.le_refl _)]; rfl
        have h2 := List.getElem?_eq_none_iff.mp h1
        rcases Nat.lt_or_ge pv.length prs.length with h | h
        · have h3 := pvl pv.length
          rw [List.getElem?_eq_none (Nat.le_refl _), List.getElem?_eq_getElem h] at h3
          cases h3
        · omega
      refine PySem.call_dict_pairs (knd := mixKind X.prog X.w) (kvs := prs) (PairArg.tuple a (ps.map Value.ref).toArray (fun j => ps.getD j 0) pv) (I.ok.hd hc) ⟨⟨_, n, hg, c1, c2, hdat⟩, ?_, fun j k v e => ?_⟩ ⟨by rw [pvn], fun i key v e => ?_⟩ (by rw [pvn, hl]; exact hz) fun h' tk hd' k => ?_
      · show (ps.map Value.ref).toArray.size = _
        rw [List.size_toArray, List.length_map, pvn, hl]
      · rw [pvl] at e
        obtain ⟨q, e1, e2⟩ := Option.map_eq_some_iff.mp e
        injection e2 with e3 e4
        subst e3 e4
        obtain ⟨b, hb, htp, _⟩ := kfs j q e1
        refine ⟨?_, .inl ?_⟩
        · show (ps.map Value.ref).toArray[j]? = _
          rw [List.getElem?_toArray, List.getElem?_map, hb]
          show some (Value.ref b) = some (.ref (ps.getD j 0))
          rw [List.getD_eq_getElem?_getD, hb]; rfl
        · have eb : ps.getD j 0 = b := by rw [List.getD_eq_getElem?_getD, hb]; rfl
          show s.heap.IsTuple (ps.getD j 0) _
          rw [eb]
          exact htp
      · have e : pv[i]? = some (key, v) := e
        rw [pvl] at e
        obtain ⟨q, e1, e2⟩ := Option.map_eq_some_iff.mp e
        injection e2 with e3 e4
        subst e3 e4
        obtain ⟨b, _, _, hk⟩ := kfs i q e1
        exact ⟨q.1, e1, hk⟩
      · have hm : (s.heap.objs.size == sysModules) = false := beq_eq_false_iff_ne.mpr (Nat.ne_of_gt I.big)
        have hlen : (mergeK [] kvs).length ≤ sizeLine := by
          refine Nat.le_trans (length_mergeK kvs []) ?_
          rw [List.length_nil, Nat.zero_add, rel.length, hl]
          exact hz
        exact ⟨.ref s.heap.objs.size, upd H s.heap.objs.size (.dK (mergeK [] kvs)), I.laid (t' := tk) (fun b o e => k b o (fun z => nomatch z) e) (Nat.le_refl _) (show ObjOk X.prog X.w _ _ _ (.dK (mergeK [] kvs)) from ⟨hlen, hm, merged [] prs, KV.merge rel .nil, hd'⟩), rfl, q _ (I.hok.fresh (Nat.le_refl _))⟩
    · exact call_dictP hc pins s σ H [.ref a] us Q I r ⟨a, ps, kvs, rfl, hl, hp, q⟩
    · exact call_dictD pins s σ H [.ref a] us Q I r ⟨a, kvs, rfl, hd, q⟩
end S
namespace S
open PySem PySem.Spec PyProof.Rows L2
/-! ### sorted(list of numbers | list of texts | dict of texts) -/
structure SrtD (K : Frag) (H : Hp) (p : Addr) (Q : VK) : Prop where
  ex : Srt K H p Q ∨ (∃ xs : List Str, SqL K H p (xs.map V.str) ∧ xs.length < 64 ∧ ∀ ys q, ys.Perm xs → sortedS ys = true → H q = none → Q (.ref q) (upd H q (.lst (ys.map V.str)))) ∨
    ∃ (kvs : List (Key × V)) (ks : List Str), L2.Rd H p (.dK kvs) ∧ kvs.map (·.1) = ks.map Sum.inr ∧ ks.length < 64 ∧ ∀ ys q, ys.Perm ks → sortedS ys = true → H q = none → Q (.ref q) (upd H q (.lst (ys.map V.str)))
theorem SrtD.s {K : Frag} {H : Hp} {p : Addr} {Q : VK} {xs : List Str} (h : H p = some (.lst (xs.map V.str))) (l : xs.length < 64) (q : ∀ ys q, ys.Perm xs → sortedS ys = true → H q = none → Q (.ref q) (upd H q (.lst (ys.map V.str)))) : SrtD K H p Q := ⟨.inr (.inl ⟨xs, SqL.of h, l, q⟩)⟩
theorem SrtD.d {K : Frag} {H : Hp} {p : Addr} {Q : VK} {kvs : List (Key × V)} {ks : List Str} (h : L2.Rd H p (.dK kvs)) (hk : kvs.map (·.1) = ks.map Sum.inr) (l : ks.length < 64) (q : ∀ ys q, ys.Perm ks → sortedS ys = true → H q = none → Q (.ref q) (upd H q (.lst (ys.map V.str)))) : SrtD K H p Q := ⟨.inr (.inr ⟨kvs, ks, h, hk, l, q⟩)⟩
def cSortedD (K : Frag) : List V → Hp → VK → Prop := fun xs H Q => match xs with
  | [.ref p] => SrtD K H p Q
  | _ => False
theorem c_sortedD {X : Cx} (hc : X.calm = true) : CallR X (.builtin "sorted") (cSortedD X.K) := by
  intro pins s σ H xs us Q I r h
  match xs, h with
  | [.ref p], ⟨h⟩ =>
    rcases h with h | ⟨ys, h1, h2, q⟩ | ⟨kvs, ks, h1, h2, h3, q⟩
    · exact c_sorted pins s σ H [.ref p] us Q I r h
    · exact cr_sortedS pins s σ H [.ref p] us Q I r ⟨p, ys, rfl, h1, h2, q⟩
    · exact call_sortedD hc pins s σ H [.ref p] us Q I r ⟨p, kvs, ks, rfl, h1, h2, h3, q⟩
/-! ### list(sequence | dict) -/
structure LstD (K : Frag) (H : Hp) (p : Addr) (Q : VK) : Prop where
  ex : Rd K H p (fun ys => NewL H ys Q) ∨ ∃ kvs : List (Key × V), L2.Rd H p (.dK kvs) ∧ NewL H (kvs.map fun kv => kV kv.1) Q
theorem LstD.l {K : Frag} {H : Hp} {p : Addr} {Q : VK} (h : Rd K H p fun ys => NewL H ys Q) : LstD K H p Q := ⟨.inl h⟩
theorem LstD.d {K : Frag} {H : Hp} {p : Addr} {Q : VK} {kvs : List (Key × V)} (h : L2.Rd H p (.dK kvs)) (q : NewL H (kvs.map fun kv => kV kv.1) Q) : LstD K H p Q := ⟨.inr ⟨kvs, h, q⟩⟩
def cListD (K : Frag) : List V → Hp → VK → Prop := fun xs H Q => match xs with
  | [.ref p] => LstD K H p Q
  | _ => False
theorem c_listD {X : Cx} (hc : X.calm = true) : CallR X (.type "list") (cListD X.K) := by
  intro pins s σ H xs us Q I r h
  match xs, h with
  | [.ref p], ⟨h⟩ =>
    rcases h with h | ⟨kvs, h1, q⟩
    · exact c_list pins s σ H [.ref p] us Q I r h
    · exact call_listD hc pins s σ H [.ref p] us Q I r ⟨p, kvs, rfl, h1, q.go⟩
/-! ### {k: v} -/
structure DispS (H : Hp) (p : Addr) (z : Str) (v : V) (Q : VK) : Prop where
  c : H p = some (.dK [])
  q : Q (.ref p) (upd H p (.dK [(.inr z, v)]))
def dDisp1 (tk tv : TE) : TE := fun σ H Q => NewD H (.dK []) fun x H1 => tk σ H1 fun y H2 => tv σ H2 fun v H3 => match x, y with
  | .ref p, .str z => DispS H3 p z v Q
  | _, _ => False
theorem pe_disp1 {X : Cx} {k v : Expr} {tk tv : TE} {pos : Pos} (hk : PE X k tk) (hv : PE X v tv) : PE X (.Dict [some k] [v] pos) (dDisp1 tk tv) := by
  have h := pe_disp (pos := pos) (pps_cons (pe_up hk) (pe_up hv) pps_nil) rfl rfl (List.cons_ne_nil _ _) (by show 1 ≤ 15; decide)
  refine PE.of h fun σ H Q q => ?_
  intro p hp
  have q1 := q.go p hp
  refine ⟨_, q1, fun y H2 q2 => ?_⟩
  refine ⟨_, q2, fun z H3 q3 => ?_⟩
  cases y <;> try exact q3.elim
  rename_i w
  obtain ⟨c, q3⟩ := q3
  exact ⟨c, [(.inr w, z)], rfl, by show 1 ≤ 15; decide, q3⟩
/-! ### {k: v for ..} -/
def DcGo (g : TG) (tt : TT) (tk tv : TE) (vs : List Nat) (σ : L2.St) (Q : VK) (J : It) (H1 : Hp) : Prop :=
  ∀ D, H1 D = none → ∃ W : Nat → Nat → Hp → Prop, (∃ m, W 0 m (upd H1 D (.dK []))) ∧ ∀ i m H, W i m H →
    (J.stop i H ∧ Q (.ref D) H) ∨ (J.go i H ∧ ∃ Nx : Hp → Prop, (∀ H', Nx H' → ∃ m', m' < m ∧ W (i + 1) m' H') ∧ ∀ x H', J.yld i H x H' → g x (wipe σ vs) H' fun σ2 H2 => wipe σ2 vs = wipe σ vs ∧ tt σ2 H2 fun b H3 =>
      if b = true then tk σ2 H3 fun y H4 => tv σ2 H4 fun z H5 => ∃ kvs k, y = kV k ∧ H5 D = some (.dK kvs) ∧ kvs.length < sizeLine ∧ Nx (upd H5 D (.dK (putK kvs k z))) else Nx H3)
def dDc (wi : TI) (g : TG) (tt : TT) (tk tv : TE) (vs : List Nat) : TE := fun σ H Q => wi σ H (Wr (DcGo g tt tk tv vs σ Q))
theorem pe_dc {X : Cx} {kx vx tg iter : Expr} {ifs : List Expr} {scope : Scope} {own : List (Str × Nat)} {pos : Pos} {wi : TI} {g : TG} {tt : TT} {tk tv : TE} (hc : X.calm = true) (hN : X.N.Nodup) (hi : PI X tg iter wi) (ok : BlkOk X.N X.env.scope scope own)
    (hg : ∀ (s : Shared) (H : Hp) (C : Addr) (cl : List (Str × Addr)) (fp : List Addr), PG (X.blk s H scope (compEnvC scope cl C X.env) fp) tg g) (ht : ∀ (s : Shared) (H : Hp) (C : Addr) (cl : List (Str × Addr)) (fp : List Addr), PTs (X.blk s H scope (compEnvC scope cl C X.env) fp) ifs tt)
    (hk : ∀ (s : Shared) (H : Hp) (C : Addr) (cl : List (Str × Addr)) (fp : List Addr), PE (X.blk s H scope (compEnvC scope cl C X.env) fp) kx tk)
    (he : ∀ (s : Shared) (H : Hp) (C : Addr) (cl : List (Str × Addr)) (fp : List Addr), PE (X.blk s H scope (compEnvC scope cl C X.env) fp) vx tv) (hs : ∀ x, foldedSetIterable iter X.env x = pure x := by intro _; rfl) :
    PE X (.DictComp kx vx [⟨tg, iter, ifs, 0⟩] scope pos) (dDc wi g tt tk tv (own.map (·.2))) := L2.pe_dc hc hN (pi_wr hi) ok hg ht hk he hs
theorem dc_seq {K : Frag} {p : Addr} {xs : List V} {g : TG} {tt : TT} {tk tv : TE} {vs : List Nat} {σ : L2.St} {H1 : Hp} {Q : VK} (hx : SqA K H1 p xs)
    (h : ∀ D, H1 D = none → ∃ Pv : Nat → Hp → Prop, Pv 0 (upd H1 D (.dK [])) ∧ (∀ i H, i ≤ xs.length → Pv i H → Same H1 H) ∧
      (∀ i x H, xs[i]? = some x → Pv i H → g x (wipe σ vs) H fun σ2 H2 => wipe σ2 vs = wipe σ vs ∧ tt σ2 H2 fun b H3 =>
        if b = true then tk σ2 H3 fun y H4 => tv σ2 H4 fun z H5 => ∃ kvs k, y = kV k ∧ H5 D = some (.dK kvs) ∧ kvs.length < sizeLine ∧ Pv (i + 1) (upd H5 D (.dK (putK kvs k z))) else Pv (i + 1) H3) ∧ (∀ H, Pv xs.length H → Q (.ref D) H)) :
    Walk K H1 p (Wr (DcGo g tt tk tv vs σ Q)) := by
  rcases hx with hx | hx
  · refine ⟨.inl ⟨⟨xs, hx⟩, ⟨fun D hD => ?_⟩⟩⟩
    obtain ⟨Pv, h0, hl, hs, hd⟩ := h D hD
    refine ⟨fun i m H => m = xs.length - i ∧ i ≤ xs.length ∧ Pv i H, ⟨xs.length, by simp, Nat.zero_le _, h0⟩, ?_⟩
    rintro i m H ⟨rfl, hi, p⟩
    have q := (hl i H hi p).seq hx
    by_cases hlt : i < xs.length
    · refine .inr ⟨⟨xs, xs[i], q, by simp [hlt]⟩, Pv (i + 1), fun H' p' => ⟨xs.length - (i + 1), by omega, rfl, hlt, p'⟩, fun x H' y => ?_⟩
      obtain ⟨e, y⟩ := y
      subst e
      exact hs i x _ (y xs q) p
    · have e : i = xs.length := by omega
      subst e
      exact .inl ⟨⟨xs, q, Nat.le_refl _⟩, hd H p⟩
  · refine ⟨.inr ⟨⟨xs, hx⟩, ⟨fun D hD => ?_⟩⟩⟩
    obtain ⟨Pv, h0, hl, hs, hd⟩ := h D hD
    refine ⟨fun i m H => m = xs.length - i ∧ i ≤ xs.length ∧ Pv i H, ⟨xs.length, by simp, Nat.zero_le _, h0⟩, ?_⟩
    rintro i m H ⟨rfl, hi, p⟩
    have q := Same.tup (hl i H hi p) hx
    by_cases hlt : i < xs.length
    · refine .inr ⟨⟨xs, xs[i], q, by simp [hlt]⟩, Pv (i + 1), fun H' p' => ⟨xs.length - (i + 1), by omega, rfl, hlt, p'⟩, fun x H' y => ?_⟩
      obtain ⟨e, y⟩ := y
      subst e
      exact hs i x _ (y xs q) p
    · have e : i = xs.length := by omega
      subst e
      exact .inl ⟨⟨xs, q, Nat.le_refl _⟩, hd H p⟩
/-! ### for k in d -/
def lkD (d : Addr) (od : Obj) (u : HO) (D : L2.Ends) : L2.Ends := ⟨fun σ' H' => H' d = some (.frz od u) ∧ D.nx σ' (upd H' d u), fun v H' => H' d = some (.frz od u) ∧ D.rt v (upd H' d u), fun σ' H' => H' d = some (.frz od u) ∧ D.bk σ' (upd H' d u), fun σ' H' => H' d = some (.frz od u) ∧ D.ct σ' (upd H' d u)⟩
structure LockK (H : Hp) (d : Addr) (D : L2.Ends) (g : TG) (tb : TS) (σ : L2.St) : Prop where
  ex : ∃ kvs : List (Key × V), H d = some (.dK kvs) ∧ ∀ od, LoopR (lkD d od (.dK kvs) D) g tb σ (Itk d od kvs) (upd H d (.frz od (.dK kvs)))
def dForK (i : Nat) (g : TG) (tb : TS) : TS := fun D σ H => onSome (nth σ i) fun v => match v with
  | .ref d => LockK H d D g tb σ
  | _ => False
theorem ps_forK {X : Cx} {i : Nat} {x : Str} {tg : Expr} {body : List Stmt} {g : TG} {tb : TS} {p pos : Pos} (hp : PassesOwn (model X.prog X.w) X.A X.env X.xe) (hc : X.calm = true) (hg : PG X tg g) (hb : PSs X body tb) (hN : X.N[i]? = some x := by rfl) (hv : Vis X.env.scope x := by first | exact Or.inl rfl | exact Or.inr (Or.inl rfl) | exact Or.inr (Or.inr rfl))
    (hd : (x == ("__debug__" : Str)) = false := by decide) (hcd : (x == ("__classdict__" : Str)) = false := by decide) (hs : ∀ y, foldedSetIterable (.Name x p) X.env y = pure y := by intro _; rfl) : PS X (.For tg (.Name x p) body [] pos) (dForK i g tb) := by
  have h := ps_lock (ps_for (pos := pos) hp hc (pi_keys (tg := tg) (pv (pos := p) i hN hv hd hcd)) hg hb hs)
  refine PS.of h fun D σ H q => ?_
  unfold dForK onSome at q
  cases e : nth σ i with
  | none => rw [e] at q; exact q.elim
  | some v =>
    rw [e] at q
    cases v <;> try exact q.elim
    rename_i d
    obtain ⟨kvs, hk, q⟩ := q.ex
    refine ⟨d, .dK kvs, hk, trivial, fun od => ?_⟩
    show iKeys (dVar i) σ _ _
    unfold iKeys dVar onSome
    rw [e]
    exact ⟨d, od, rfl, .inl ⟨kvs, upd_same, q od⟩⟩
theorem for_keys {d : Addr} {kvs : List (Key × V)} {g : TG} {tb : TS} {D : L2.Ends} {σ : L2.St} {H : Hp} (hk : H d = some (.dK kvs)) (Pv : Nat → L2.St → Hp → Prop) (h0 : ∀ od, Pv 0 σ (upd H d (.frz od (.dK kvs))))
    (hs : ∀ od i k v σ H', kvs[i]? = some (k, v) → H' d = some (.frz od (.dK kvs)) → Pv i σ H' → g (kV k) σ H' fun σ2 H2 => tb { lkD d od (.dK kvs) D with nx := fun σ H'' => H'' d = some (.frz od (.dK kvs)) ∧ Pv (i + 1) σ H'', ct := fun σ H'' => H'' d = some (.frz od (.dK kvs)) ∧ Pv (i + 1) σ H'', bk := (lkD d od (.dK kvs) D).nx } σ2 H2)
    (hd : ∀ od σ H', H' d = some (.frz od (.dK kvs)) → Pv kvs.length σ H' → D.nx σ (upd H' d (.dK kvs))) : LockK H d D g tb σ := by
  refine ⟨kvs, hk, fun od => ?_⟩
  refine ⟨fun i m σ H' => m = kvs.length - i ∧ i ≤ kvs.length ∧ H' d = some (.frz od (.dK kvs)) ∧ Pv i σ H', ⟨kvs.length, by simp, Nat.zero_le _, upd_same, h0 od⟩, ?_⟩
  rintro i m σ H' ⟨rfl, hi, hl, p⟩
  by_cases hlt : i < kvs.length
  · refine .inr ⟨⟨hl, hlt⟩, fun σ H'' => H'' d = some (.frz od (.dK kvs)) ∧ Pv (i + 1) σ H'', fun σ' H'' p' => ⟨kvs.length - (i + 1), by omega, rfl, hlt, p'⟩, fun x H'' y => ?_⟩
    obtain ⟨e, k, v, hkv, ex⟩ := y
    subst e ex
    exact hs od i k v σ _ hkv hl p
  · have e : i = kvs.length := by omega
    subst e
    exact .inl ⟨⟨hl, Nat.le_refl _⟩, hl, hd od σ H' hl p⟩
end S
namespace S
open PySem PySem.Spec PyProof.Rows L2
def uOwnN (K : Frag) (c : Str) (sp : Sp) (E : XK) : V → Hp → VK → Prop := fun x H Q => match x with
  | .int i => Q (.int (-i)) H
  | .ref a => uOwn K c sp E (.ref a) H Q
  | _ => False
section
variable {X : Cx} {c : Str} {g : Addr} {k : Nat} {sp : Sp} {E : XK}
theorem u_negN (hm : Meth X.K (He.ga X.K c) "__neg__" g) (F : FnR X.prog X.w X.K X.mg X.base (L2.CX X.prog X.w) k g sp) (hr : Room k X.A) (hx : ∀ σ, PassesAt (L2.CX X.prog X.w) X σ E) : UnR X (unaryOp .USub) (uOwnN X.K c sp E) := by
  intro pins s σ H x v Q I rx q
  cases x <;> try exact q.elim
  · exact u_neg pins s σ H _ v Q I rx q
  · exact u_negO hm F hr hx pins s σ H _ v Q I rx q
end
end S
namespace S
open PySem PySem.Spec PyProof.Rows L2
/-- what the written part says of such a def fI of the class c: g the def above -/
structure SupF (P : Program) (K : Frag) (c : Str) (g : Addr) (nm qual : Str) (params : Arguments) (body : List Stmt) (scope : Scope) (fI : Addr) : Prop where
  fn : ∃ oc od osl kV doc pm an cda ct cc, K.lookup fI = some ⟨oc, od, .func (PySem.W.ksFn nm qual params body scope .none kV doc pm an (.ref cda) ct cc), osl⟩ ∧ PySem.W.codeIn K (.ref cda) qual = true ∧
    (∃ cl cld csl, K.lookup cc = some ⟨cl, cld, .cell (some (.ref (He.ga K c))), csl⟩) ∧ ∃ ccl cdd vs ccs file tf, K.lookup cda = some ⟨ccl, cdd, .fields vs, ccs⟩ ∧ vs[2]? = some (.str file tf) ∧ ((P.main.file : Str) == file) = true
  sub : PySem.W.mroIn K (He.ga K c) (.ref (He.ga K c)) = some true
  sup : PySem.W.ks_superIn K (He.ga K c) (He.ga K c) "__init__" = some (some (.ref g))
  tg : PySem.W.typeIn K (.ref g) = some (.type "function")
  fg : PySem.W.fnIn K g = true
  st : PySem.W.nsIn K cStatics "thirdparty.any" = some none
  top : (P.main.scope.names.lookup ("super" : Str)).isSome = false
structure InsC (K : Frag) (H : Hp) (c : Str) (a : Addr) (q : Prop) : Prop where
  ex : ∃ dx fs, H a = some (.ins (He.ga K c) dx fs)
  q : q
theorem InsC.of {K : Frag} {H : Hp} {c : Str} {a dx : Addr} {fs : List (Str × V)} {q : Prop} (h : H a = some (.ins (He.ga K c) dx fs)) (h2 : q) : InsC K H c a q := ⟨⟨dx, fs, h⟩, h2⟩
/-- super().__init__(..), self being the first name -/
def dSup (K : Frag) (c : Str) (sp : Sp) (E : L2.St → XK) (ta : TA) : TS := fun D σ H => onSome (nth σ 0) fun v => match v with
  | .ref a => InsC K H c a (ta σ H fun ws H2 => sp (.ref a :: ws) H2 (fun _ H3 => D.nx σ H3) (E σ))
  | _ => False
/-- the context of such a def's body -/
abbrev cxS (P : Program) (w : World) (K : Frag) (mg : Str → Option Value) (base : Heap) (N : List Str) (F : NdefX.NF) (f : Addr) (A : Around) (outer : List Env) (s : Shared) (H : Hp) (E : XK) : Cx := NdefX.ncx (L2.CX P w) P w K mg base N F f A outer s H E
theorem passS {P : Program} {w : World} {K : Frag} {mg : Str → Option Value} {base : Heap} {N : List Str} {F : NdefX.NF} {f : Addr} {A : Around} {outer : List Env} {s : Shared} {H : Hp} {E : XK} :
    ∀ σ, PassesAt (L2.CX P w) (cxS P w K mg base N F f A outer s H E) σ (EW E σ) := fun σ => passAt (takes_of rfl rfl rfl rfl) σ
theorem ownS {P : Program} {w : World} {K : Frag} {mg : Str → Option Value} {base : Heap} {N : List Str} {F : NdefX.NF} {f : Addr} {A : Around} {outer : List Env} {s : Shared} {H : Hp} {E : XK} :
    PassesOwn (model P w) (cxS P w K mg base N F f A outer s H E).A (cxS P w K mg base N F f A outer s H E).env (cxS P w K mg base N F f A outer s H E).xe := passes_of rfl
theorem startS {N ps : List Str} {vs : List V} (hl : vs.length = ps.length) (hN : ps.length + 1 ≤ N.length) : NdefX.startF N vs [none] = L2.start N vs := by
  unfold NdefX.startF L2.start
  congr 1
  obtain ⟨m, hm⟩ : ∃ m, N.length - vs.length = m + 1 := ⟨N.length - vs.length - 1, by omega⟩
  rw [hm]
  rfl
section
variable {P : Program} {w : World} {K : Frag} {mg : Str → Option Value} {base : Heap} {c nm qual : Str} {params : Arguments} {body rest : List Stmt} {scope : Scope} {fI g : Addr} {p0 p1 p2 p4 p5 : Pos} {e : Expr} {es : List Expr} {N ps : List Str} {self0 : Str} {k : Nat} {sp sp0 : Sp} {ta : XK → TA} {tr : XK → TS} {pl : Env → Sem Bool}
theorem mk_fnS (D : SupF P K c g nm qual params body scope fI) (hms : mg "super" = none) (S : NdefX.NScope N ps ["__class__"] scope) (len : ∀ vs H Q E, sp vs H Q E → vs.length = ps.length)
    (hbind : ∀ (kV doc pm : Value) (an : Option Addr) (cdv ct : Value) (cc : Addr) (us : List Value), us.length = ps.length → bindArgs (PySem.W.ksFn nm qual params body scope .none kV doc pm an cdv ct cc) ⟨us, []⟩ = pure (ps.zip us))
    (FG : FR P w K mg base k g sp0) (hbody : body = .Expr (.Call (.Attribute (.Call (.Name "super" p0) [] [] p1) "__init__" p2) (e :: es) [] p4) p5 :: rest)
    (hp : ∃ ar, (params.posonlyargs ++ params.args).head? = some ar ∧ ar.arg = self0) (hps : ps.head? = some self0) (hks : scope.names.lookup ("super" : Str) = some .globalImplicit)
    (hsw2 : ∀ env, swapsWith (.Call (.Attribute (.Call (.Name "super" p0) [] [] p1) "__init__" p2) (e :: es) [] p4) none p5.line env = pure false)
    (hev : ∀ env, eval (.Call (.Attribute (.Call (.Name "super" p0) [] [] p1) "__init__" p2) (e :: es) [] p4) env = (do
      let ov ← attributeBase (.Call (.Name "super" p0) [] [] p1) "__init__" env (eval (.Call (.Name "super" p0) [] [] p1) env)
      standAt p2.atName
      let (f, first) ← holding [ov] (getMethod ov "__init__" (pl env))
      callWith p4 f first (backTo p4 (starEach (e :: es) env)) []))
    (hst : ∀ env, starEach (e :: es) env = (false, eval e env) :: starEach es env) (hpl : ∀ env, (backTo p4 (starEach es env)).any (·.1) = false)
    (hb : ∀ (cda cc : Addr) (A : Around) (outer : List Env) (s : Shared) (H : Hp) (E : XK), Room k (A.deeper (NdefX.envF ⟨nm, qual, params, body, scope, [("__class__", cc)], cda⟩ fI s.heap.objs.size)) →
      PA (cxS P w K mg base N ⟨nm, qual, params, body, scope, [("__class__", cc)], cda⟩ fI A outer s H E) (e :: es) (ta E) ∧ PSs (cxS P w K mg base N ⟨nm, qual, params, body, scope, [("__class__", cc)], cda⟩ fI A outer s H E) rest (tr E))
    (pure : ∀ vs H Q E, sp vs H Q E → tSeq (dSup K c sp0 (EW E) (ta E)) (tr E) { nx := fun _ H' => Q .non H', rt := Q } (start N vs) H) : FR P w K mg base (k + 1) fI sp := by
  intro A outer s H us vs Q E hr e0 r hsp
  have hl := len _ _ _ _ hsp
  obtain ⟨oc, od, osl, kV, doc, pm, an, cda, ct, cc, lk, hcd, ⟨cl, cld, csl, lc⟩, ccl, cdd, fvs, ccs, file, tf, lcd, hvs, hfile⟩ := D.fn
  have KX : K.In s.heap := e0.mod.kin.keeps fun b o e => (e0.bs b o e).1
  have lim : s.heap.NoLimit := e0.mod.nolimit.keeps fun b o e => (e0.bs b o e).1
  have hq := pure vs H Q E hsp
  have hNl : ps.length + 1 ≤ N.length := by
    have q := congrArg List.length S.pre
    rw [List.length_take, List.length_append] at q
    simp at q
    omega
  have hcc0 : H cc = none := (e0.bs _ _ (e0.mod.kin _ _ lc)).2
  have hC : NdefX.CellsAt [("__class__", cc)] ["__class__"] [none] s.heap H := by
    refine ⟨rfl, fun y c' hy => ?_, fun x y c' h1 h2 => ?_, fun i y hi => ?_⟩
    · have := PySem.mem_of_lookup hy
      have : (y, c') = (("__class__" : Str), cc) := by simpa using this
      cases this
      exact ⟨hcc0, _, _, KX _ _ lc, rfl⟩
    · have e1 : (x, c') = (("__class__" : Str), cc) := by simpa using PySem.mem_of_lookup h1
      have e2 : (y, c') = (("__class__" : Str), cc) := by simpa using PySem.mem_of_lookup h2
      cases e1
      cases e2
      rfl
    · cases i with
      | zero =>
        cases hi
        exact ⟨cc, rfl, fun v z => by cases z⟩
      | succ i => simp at hi
  obtain ⟨ar, har, har2⟩ := hp
  obtain ⟨mb, hmb, hbt⟩ := e0.mod.blt
  have hul : us.length = ps.length := by rw [← r.length]; exact hl
  have hself : scope.names.lookup self0 = some .local := S.par _ (by cases ps with | nil => cases hps | cons a b => cases hps; exact List.mem_cons_self ..)
  have hkc : scope.names.lookup ("__class__" : Str) = some .free := S.frk _ (List.mem_cons_self ..)
  subst hbody
  refine PySem.ks_codeAny_call_defAt (binds := ps.zip us) hr.depth (KX _ _ lk) rfl lim (PySem.W.codeRec_of KX hcd) rfl (BindsTo.of_eq (hbind _ _ _ _ _ _ _ _ hul)) S.nocell (fun y hy => S.par _ (List.of_mem_zip hy).1) (fun h₁ hns keep => ?_) S.co S.gen S.kind
  have I := NdefX.inv_startN (CX := L2.CX P w) (P := P) (w := w) (K := K) (mg := mg) (base := base) (f := fI) (E := E) (tk := s.toks + (ps.zip us).length) (F := ⟨nm, qual, params, .Expr (.Call (.Attribute (.Call (.Name "super" p0) [] [] p1) "__init__" p2) (e :: es) [] p4) p5 :: rest, scope, [("__class__", cc)], cda⟩) S hr.hd e0 hl r hC hns keep
  rw [startS hl hNl] at I
  obtain ⟨hpa, hrest⟩ := hb cda cc A outer s H E (hr.deeper _)
  have hX := hrest
  -- self
  obtain ⟨v0, vr, rfl⟩ : ∃ v0 vr, vs = v0 :: vr := by
    cases vs with
    | nil => cases ps with | nil => cases hps | cons a b => cases hl
    | cons v0 vr => exact ⟨v0, vr, rfl⟩
  cases v0 with
  | ref a =>
    have hq : InsC K H c a (ta E (L2.start N (.ref a :: vr)) H fun ws H2 => sp0 (.ref a :: ws) H2 (fun _ H3 => tr E { nx := fun _ H' => Q .non H', rt := Q } (L2.start N (.ref a :: vr)) H3) E) := hq
    obtain ⟨⟨dx, fs, ha⟩, hq⟩ := hq
    cases r with
    | @cons _ u0 _ ur ra rv =>
      obtain rfl : u0 = Value.ref a := ra
      have K1 : K.In h₁ := KX.keeps keep
      have g1 : h₁.Ns mainGlobals mg := e0.mod.glob.keeps fun b o e => keep b o (e0.bs b o e).1
      have b1 : h₁.Ns builtinsNs mb := hmb.keeps fun b o e => keep b o (e0.bs b o e).1
      have hlk : (ps.zip (Value.ref a :: ur)).reverse.lookup self0 = some (Value.ref a) := by
        have ndP : ps.Nodup := by
          have q := S.nd.sublist (List.take_sublist (ps.length + 1) N)
          have e : N.take (ps.length + 1) = ps ++ [("__class__" : Str)] := S.pre
          rw [e] at q
          exact (List.nodup_append.mp q).1
        exact NdefX.zip_look (i := 0) ndP (by cases ps with | nil => cases hps | cons a b => cases hps; rfl) rfl
      obtain ⟨mA, O, _, _, _, _⟩ := ins_get e0.hok ha
      obtain ⟨oda, J, _⟩ := O.look
      have ho := J.at_
      obtain ⟨oD, cdD, hC1, hcl2, hcl, hal⟩ : ∃ oD cdD, h₁.get? (He.ga K c) = some oD ∧ oD.data = .cls cdD ∧ PySem.W.clsIn K (He.ga K c) = some cdD ∧ PySem.W.alongIn K "__init__" ((cdD.mro.dropWhile (· != .ref (He.ga K c))).drop 1) = some (some (.ref g)) := by
        have hm := D.sup
        unfold PySem.W.ks_superIn at hm
        cases hc : PySem.W.clsIn K (He.ga K c) with
        | none => rw [hc] at hm; cases hm
        | some cd =>
          rw [hc] at hm
          have hc2 := hc
          unfold PySem.W.clsIn at hc2
          split at hc2
          · rename_i c' d' cd' sl' lo
            cases hc2
            exact ⟨_, _, K1 _ _ lo, rfl, rfl, hm⟩
          · cases hc2
      obtain ⟨og, hog, hogc⟩ : ∃ og, K.lookup g = some og ∧ og.cls = .type "function" := by
        have ht' : (K.lookup g).map (·.cls) = some (.type "function") := D.tg
        cases z : K.lookup g with
        | none => rw [z] at ht'; cases ht'
        | some og => rw [z] at ht'; exact ⟨og, rfl, Option.some.inj ht'⟩
      refine PySem.ks_wpAt_execs_cons (PySem.ks_wpAt_Expr_any (hi := by unfold interactive; show (scope.kind == _ && _) = false; rw [S.kind]; rfl) (hs := hsw2 _) (PySem.ks_wpAt_MethodCall (he := hev _) (PySem.ks_wpAt_super_base hks hkc (by decide) rfl (K1 _ _ lk) rfl har rfl (K1 _ _ lcd) rfl hvs hfile D.top ?_)))
      rw [har2]
      refine PySem.W.ks_loadName_global S.kind hks (Calls.loadGlobal_builtin g1 hms b1 ((hbt "super" (by decide)).trans (by decide +kernel : bootBuiltins ("super" : Str) = some (.type "super"))) ⟨rfl, ?_⟩)
      refine wpAny_loadName_free S.kind hkc rfl ⟨_, K1 _ _ lc, rfl⟩ ?_
      refine wpAny_loadName_local S.kind hself hns hlk ?_
      obtain ⟨sh, sg, sd, stk, sos⟩ := s
      refine PySem.ks_wpAny_isType_cls hC1 hcl2 ⟨rfl, ?_⟩
      refine PySem.ks_wpAny_call_super hC1 hcl2 (keep _ _ ho) rfl (fun c z => nomatch z) (PySem.W.looks_mroIn K1 D.sub) fun h2 hso kp2 => ?_
      have I2 := I.kept (t' := stk + (ps.zip (Value.ref a :: ur)).length) kp2
      have K2 : K.In h2 := K1.keeps kp2
      have J2 : PySem.W.InstAt h2 a _ (He.ga K c) (some oda) := ⟨kp2 _ _ (keep _ _ J.at_), J.cls, J.no, kp2 _ _ (keep _ _ J.dict)⟩
      refine PySem.ks_wpAny_getMethod_super hso (PySem.W.looks_opaque K2 D.st) (l₀ := cdD.mro) (fun A Q E s k q => wpAny_bind ((PySem.W.looks_clsIn K2 hcl) A _ E s k (wpAny_pure q))) rfl K2 hal (K2 _ _ hog) hogc (PySem.W.ks_ne K2 J2 hcl) (by decide) ?_
      have I3 := I2.kept (t' := stk + (ps.zip (Value.ref a :: ur)).length + 1) (h' := h2.push (PySem.W.methodObj (.ref g) (.ref a))) (fun b u e => Heap.get?_push_of_some _ e)
      have hbm : (h2.push (PySem.W.methodObj (.ref g) (.ref a))).get? h2.objs.size = some (PySem.W.methodObj (.ref g) (.ref a)) := Heap.get?_push_at rfl rfl
      have I4 := I3.pins_of (pins' := [(h2.objs.size, PySem.W.methodObj (.ref g) (.ref a))]) (fun p hp => by
        rw [List.mem_singleton.mp hp]
        refine ⟨hbm, I2.hok.fresh (Nat.le_refl _), fun z => ?_, I2.nofs (Nat.le_refl _), fun v z => by cases z⟩
        have := I2.lt
        exact absurd this (by rw [← z]; exact Nat.lt_irrefl _))
      rw [hst]
      refine PySem.W.callWith_of (P := PySem.W.MethP K h2.objs.size g (.ref a)) (by show ((false || (backTo p4 (starEach es _)).any (·.1)) || false) = false; rw [hpl]; rfl) (PySem.W.keeps_M D.fg) (Calls.evalArgs_plain ?_)
      have hrun := hpa.run p4 _ _ _ _ _ I4 hq
      rw [hst] at hrun
      refine thn hrun fun us2 s2 ⟨ws, H2, I5, r2, q2⟩ => ⟨⟨(I5.pin _ (List.mem_append_right _ (List.mem_cons_self ..))).1, I5.kIn⟩, ?_⟩
      refine wpAny_call (PySem.ks_codeAny_call_bound (I5.pin _ (List.mem_append_right _ (List.mem_cons_self ..))).1 (codeAny_mono (FG _ _ _ _ _ _ _ (hr.deeper _) I5.env0 (vs := V.ref a :: ws) (.cons (show L2.RelV (V.ref a) (Value.ref a) from rfl) r2) q2) fun rr s3 hr3 => ?_))
      cases rr with
      | error er => exact passS (L2.start N (.ref a :: vr)) _ _ _ _ _ I5 hr3
      | ok fl =>
        cases fl with
        | ret u =>
          obtain ⟨v3, H3, I6, _, q3⟩ := I5.after hr3
          have I7 := I6.pins_of (pins' := []) (fun p hp => absurd hp (by simp))
          show _root_.PySem.wpAt _ _ _ (execs rest _) _ _ _
          refine wpAt_of_wpAny (wpAny_mono (hrest.run [] s3 _ _ _ I7 q3) (fun fl s4 hs => ?_) fun e s4 hs => hs)
          have fin : ∀ {F : NdefX.NF} {s0 : Shared} {σ' : L2.St} {H' : Hp} {v : V} {u : Value}, Inv (cxS P w K mg base N F fI A outer s0 H E) [] σ' H' s4 → RelV v u → Q v H' → CE outer P w H s0 Q u s4 :=
            fun {F s0 σ' H' v u} J rv q => ⟨v, H', J.os, J.bare, J.base, J.hok, rv, q⟩
          cases fl with
          | ret u =>
            obtain ⟨v, σ', H', J, rv, q⟩ := hs
            exact fin J rv q
          | next =>
            obtain ⟨σ', H', J, q⟩ := hs
            exact fin (v := V.non) (u := Value.none) J rfl q
          | brk =>
            obtain ⟨_, _, _, q⟩ := hs
            exact False.elim q
          | cont =>
            obtain ⟨_, _, _, q⟩ := hs
            exact False.elim q
        | next => exact False.elim hr3
        | brk => exact False.elim hr3
        | cont => exact False.elim hr3
  | _ => exact (show False from hq).elim
end
/-! ### such a def in the head -/
def supB (P : Program) (c up : Str) (K : Frag) : Bool := fnB P K (He.ga K c) (He.fAd K (c, some "__init__")) && (decide (PySem.W.mroIn K (He.ga K c) (.ref (He.ga K c)) = some true) && (He.eqO (PySem.W.ks_superIn K (He.ga K c) (He.ga K c) "__init__") (some (some (.ref (He.fAd K (up, some "__init__"))))) &&
    (decide (PySem.W.typeIn K (.ref (He.fAd K (up, some "__init__"))) = some (.type "function")) && (PySem.W.fnIn K (He.fAd K (up, some "__init__")) && (decide (PySem.W.nsIn K cStatics "thirdparty.any" = some none) && !(P.main.scope.names.lookup ("super" : Str)).isSome)))))
theorem sup_of {P : Program} {K : Frag} {c up nm qual : Str} {params : Arguments} {body : List Stmt} {scope : Scope} (e : fnX K (He.fAd K (c, some "__init__")) = some (nm, qual, params, .stmts body, scope, mainGlobals, [(("__class__" : Str), (0 : Addr))], builtinsNs)) (h : supB P c up K = true) :
    SupF P K c (He.fAd K (up, some "__init__")) nm qual params body scope (He.fAd K (c, some "__init__")) := by
  obtain ⟨h1, h⟩ := He.ba h
  obtain ⟨h2, h⟩ := He.ba h
  obtain ⟨h3, h⟩ := He.ba h
  obtain ⟨h4, h⟩ := He.ba h
  obtain ⟨h5, h⟩ := He.ba h
  obtain ⟨h6, h7⟩ := He.ba h
  unfold fnX at e
  unfold fnB at h1
  cases lk : K.lookup (He.fAd K (c, some "__init__")) with
  | none => rw [lk] at e; cases e
  | some o =>
    rw [lk] at e h1
    obtain ⟨oc, od, dat, osl⟩ := o
    cases dat <;> try cases e
    rename_i fd
    obtain ⟨k1, k0⟩ := He.ba h1
    obtain ⟨kd, k2⟩ := He.ba k0
    obtain ⟨n1, n2, n3, n4, n5, n6, n7, n8, n9, n10, n11, n12, n13, n14, n15⟩ := fd
    simp only [Option.some.injEq, Prod.mk.injEq] at e
    obtain ⟨e1, e2, e3, e4, e5, e6, e7, e8⟩ := e
    subst e1 e2 e3 e4 e5 e6 e8
    dsimp only at k1 k2 kd
    have hdn : n8 = Value.none := by
      rcases He.dflB_ok kd with ⟨_, z⟩ | ⟨z, _⟩
      · exact z
      · exact absurd rfl z
    subst hdn
    obtain ⟨cda, nmc, cc, ec, eclo, h3', h4'⟩ := cloB_ok k2
    subst ec eclo
    have enm : nmc = "__class__" := by simpa using e7
    subst enm
    exact ⟨⟨oc, od, osl, _, _, _, _, cda, _, cc, lk, k1, cellTo_ok h3', codeFile_ok h4'⟩, of_decide_eq_true h2, He.eqO_ok h3, of_decide_eq_true h4, h5, of_decide_eq_true h6, by simpa using h7⟩
end S
namespace S
open PySem PySem.Spec PyProof.Rows L2
/-- each class of cs has the method m with its promise -/
def DynF (P : Program) (w : World) (K : Frag) (mg : Str → Option Value) (base : Heap) (k : Nat) (cs : List Str) (m : Str) (sp : Str → Sp) : Prop := ∀ c ∈ cs, Cls K (He.ga K c) ∧ ∃ g, Meth K (He.ga K c) m g ∧ FR P w K mg base k g (sp c)
structure DynM (K : Frag) (H : Hp) (cs : List Str) (m : Str) (a : Addr) (q : Str → Prop) : Prop where
  ex : ∃ c ∈ cs, ∃ dx fs, H a = some (.ins (He.ga K c) dx fs) ∧ fs.lookup m = none ∧ q c
theorem DynM.of {K : Frag} {H : Hp} {cs : List Str} {m c : Str} {a dx : Addr} {fs : List (Str × V)} {q : Str → Prop} (hc : c ∈ cs) (h : H a = some (.ins (He.ga K c) dx fs)) (h2 : q c) (l : fs.lookup m = none := by rfl) : DynM K H cs m a q := ⟨⟨c, hc, dx, fs, h, l, h2⟩⟩
def dDyn (K : Frag) (cs : List Str) (m : Str) (sp : Str → Sp) (E : L2.St → XK) (ta : TE) (t : TA) : TE := fun σ H Q => ta σ H fun x H1 => match x with
  | .ref a => DynM K H1 cs m a fun c => t σ H1 fun ws H2 => sp c (.ref a :: ws) H2 Q (E σ)
  | _ => False
def dDyn0 (K : Frag) (cs : List Str) (m : Str) (sp : Str → Sp) (E : L2.St → XK) (ta : TE) : TE := fun σ H Q => ta σ H fun x H1 => match x with
  | .ref a => DynM K H1 cs m a fun c => sp c [.ref a] H1 Q (E σ)
  | _ => False
section
variable {X : Cx} {k : Nat} {cs : List Str} {sp : Str → Sp} {E : L2.St → XK} {x m : Str} {p pos apos : Pos} {e o : Expr} {es : List Expr} {t : TA} {ta : TE}
theorem pe_dyn {pl : Sem Bool} (D : DynF X.prog X.w X.K X.mg X.base k cs m sp) (hr : Room k X.A) (hx : ∀ σ, PassesAt (L2.CX X.prog X.w) X σ (E σ)) (he : PE X o ta) (ha : PA X (e :: es) t)
    (hst : starEach (e :: es) X.env = (false, eval e X.env) :: starEach es X.env := by rfl) (hpl : (backTo pos (starEach es X.env)).any (·.1) = false := by rfl)
    (ht : eval (.Call (.Attribute o m apos) (e :: es) [] pos) X.env = (do
      let ov ← eval o X.env
      standAt apos.atName
      let (f, first) ← holding [ov] (getMethod ov m pl)
      callWith pos f first (backTo pos (starEach (e :: es) X.env)) (backToKw pos (keywordEach [] X.env))) := by rfl) :
    PE X (.Call (.Attribute o m apos) (e :: es) [] pos) (dDyn X.K cs m sp E ta t) := by
  refine ⟨fun pins s σ H Q I h => ?_⟩
  refine PySem.W.methodCall_KW (pl := pl) (thn (he.run pins s σ H _ I h) fun u s1 ⟨x, H1, I1, rx, q⟩ => ?_) ht
  cases x <;> try exact q.elim
  cases rx
  obtain ⟨⟨c, hc, dx, fs, ea, l, q⟩⟩ := q
  obtain ⟨hcl, g, hm, F⟩ := D c hc
  refine getmeth_ok I1 ea hcl hm l ?_
  refine PySem.W.callWith_K (first := [.ref _]) (h₀ := X.base) I.ok.mod.kin hm.kp (thn (ha.run pos pins s1 σ H1 _ I1 q) fun us s2 ⟨ws, H2, I2, r, q2⟩ => ⟨I2.kIn, ?_⟩) hst hpl
  exact run_R (sp := sp c) F hr (hx σ) I2 (.cons (show L2.RelV (V.ref _) (Value.ref _) from rfl) r) q2
theorem pe_dyn0 {pl : Sem Bool} (D : DynF X.prog X.w X.K X.mg X.base k cs m sp) (hr : Room k X.A) (hx : ∀ σ, PassesAt (L2.CX X.prog X.w) X σ (E σ)) (he : PE X o ta)
    (ht : eval (.Call (.Attribute o m apos) [] [] pos) X.env = (do
      let ov ← eval o X.env
      standAt apos.atName
      let (f, first) ← holding [ov] (getMethod ov m pl)
      callWith pos f first (backTo pos (starEach [] X.env)) (backToKw pos (keywordEach [] X.env))) := by rfl) :
    PE X (.Call (.Attribute o m apos) [] [] pos) (dDyn0 X.K cs m sp E ta) := by
  refine ⟨fun pins s σ H Q I h => ?_⟩
  refine PySem.W.methodCall_KW (pl := pl) (thn (he.run pins s σ H _ I h) fun u s1 ⟨x, H1, I1, rx, q⟩ => ?_) ht
  cases x <;> try exact q.elim
  cases rx
  obtain ⟨⟨c, hc, dx, fs, ea, l, q⟩⟩ := q
  obtain ⟨hcl, g, hm, F⟩ := D c hc
  refine getmeth_ok I1 ea hcl hm l ?_
  refine PySem.W.callWith_K0 (first := [.ref _]) I1.kIn hm.kp ?_
  exact run_R (sp := sp c) F hr (hx σ) I1 (.cons (show L2.RelV (V.ref _) (Value.ref _) from rfl) .nil) q
end
theorem FR.none {P : Program} {w : World} {K : Frag} {mg : Str → Option Value} {base : Heap} {k : Nat} {f : Addr} {sp : Sp} (h : ∀ vs H Q E, ¬ sp vs H Q E) : FR P w K mg base k f sp := fun _ _ _ _ _ _ _ _ _ _ _ hs => (h _ _ _ _ hs).elim
end S
namespace S
open PySem PySem.Spec PyProof.Rows L2
section
open PySem.W
variable {prog : Program} {w : World} {A : Around} {E : Value → Shared → Prop} {s : Shared} {K : Frag} {x y C C2 L f f2 : Addr} {h₀ : Heap} {m : Str → Option Value} {ox oy : Obj} {od oe : Option Obj}
/-- a op b, instances of two classes that both have the method, neither the reflected one -/
theorem binop_two {op : Operator} {Q : Value → Shared → Prop} (F : Fr h₀ L s.heap m) (X₀ : K.In h₀) (I : InstAt s.heap x ox C od) (I2 : InstAt s.heap y oy C2 oe) (hne : C ≠ C2) (hc : selfFirst K C = true) (hc2 : selfFirst K C2 = true)
    (hs : findIn K (.ref C) (PySem.dunder op.info.2) = some (some (.ref f))) (hf : isFn K (.ref f) = true) (hs2 : findIn K (.ref C2) (PySem.dunder op.info.2) = some (some (.ref f2))) (hr : findIn K (.ref C) (dunderR op.info.2) = some none) (hr2 : findIn K (.ref C2) (dunderR op.info.2) = some none)
    (hsub : subIn K (.ref C2) (.ref C) = some false)
    (h : wpAny (model prog w) A (call (.ref f) [.ref x, .ref y]) (PySem.W.CmpBack Q) E s) : wpAny (model prog w) A (binaryOp op (.ref x) (.ref y)) Q E s := by
  have X := X₀.keeps F.keep
  obtain ⟨cd, rest, hcd, hm⟩ := ksp_first hc
  obtain ⟨cd2, rest2, hcd2, hm2⟩ := ksp_first hc2
  rcases hi : op.info with ⟨sym, nm'⟩
  rw [hi] at hs hs2 hr hr2
  dsimp only at hs hs2 hr hr2
  have one := ksp_try X I hs hf h
  obtain ⟨hh, g, d, tt, os⟩ := s
  have L1 : Looks (model prog w) hh (typeOf (.ref x)) (.ref C) := I.type
  have L2 : Looks (model prog w) hh (typeOf (.ref y)) (.ref C2) := I2.type
  have L3 : Looks (model prog w) hh (fillsNumberSlot (.ref C) nm') true := fills_K X hcd hm hs
  have L4 : Looks (model prog w) hh (fillsNumberSlot (.ref C2) nm') true := fills_K X hcd2 hm2 hs2
  have L5 : Looks (model prog w) hh (isSubtype (.ref C2) (.ref C)) false := looks_subIn X hsub
  have L6 : Looks (model prog w) hh (numberSlotInPython (.ref C) nm') true := ksp_inPy X hs hr (.inl rfl)
  have L7 : Looks (model prog w) hh (numberSlotInPython (.ref C2) nm') true := ksp_inPy X hs2 hr2 (.inl rfl)
  have hne' : (Value.ref C == Value.ref C2) = false := Bool.eq_false_iff.mpr fun q => hne (by cases beq_iff_eq.mp q; rfl)
  simp only [binaryOp, hi]
  refine wpAny_holding (wpAny_bind ?_)
  unfold binaryOp1
  refine wpAny_bind (L1.at (wpAny_bind (L2.at (wpAny_bind (L3.at ?_)))))
  simp only [hne', Bool.false_eq_true, if_false]
  ksp_lk
  refine wpAny_mono one (fun r s' hr' => ?_) fun _ _ e => e
  obtain ⟨v, rfl, hq⟩ := hr'
  ksp_lk
  exact hq
end
/-- each of cs is first in its own line, has no reflected method, and none lies above another -/
def nfB (cs : List Str) (nm : String) (K : Frag) : Bool := cs.all fun c => PySem.W.selfFirst K (He.ga K c) && (He.eqO (PySem.W.findIn K (.ref (He.ga K c)) (dunderR nm)) (some none) && cs.all fun d => decide (He.ga K c = He.ga K d) || decide (PySem.W.subIn K (.ref (He.ga K d)) (.ref (He.ga K c)) = some false))
structure NfF (K : Frag) (cs : List Str) (nm : String) : Prop where
  ex : ∀ c ∈ cs, PySem.W.selfFirst K (He.ga K c) = true ∧ PySem.W.findIn K (.ref (He.ga K c)) (dunderR nm) = some none ∧ ∀ d ∈ cs, He.ga K c = He.ga K d ∨ PySem.W.subIn K (.ref (He.ga K d)) (.ref (He.ga K c)) = some false
theorem nfB_ok {K : Frag} {cs : List Str} {nm : String} (h : nfB cs nm K = true) : NfF K cs nm := ⟨fun c hc => by
  obtain ⟨h1, h⟩ := He.ba (List.all_eq_true.mp h c hc)
  obtain ⟨h2, h3⟩ := He.ba h
  refine ⟨h1, He.eqO_ok h2, fun d hd => ?_⟩
  rcases Bool.or_eq_true_iff.mp (List.all_eq_true.mp h3 d hd) with h | h
  · exact .inl (of_decide_eq_true h)
  · exact .inr (of_decide_eq_true h)⟩
structure InsM (K : Frag) (H : Hp) (cs : List Str) (a : Addr) (q : Prop) : Prop where
  ex : ∃ c ∈ cs, ∃ dx fs, H a = some (.ins (He.ga K c) dx fs)
  q : q
theorem InsM.of {K : Frag} {H : Hp} {cs : List Str} {c : Str} {a dx : Addr} {fs : List (Str × V)} {q : Prop} (hc : c ∈ cs) (h : H a = some (.ins (He.ga K c) dx fs)) (h2 : q) : InsM K H cs a q := ⟨⟨c, hc, dx, fs, h⟩, h2⟩
def oDynB (K : Frag) (cs : List Str) (m : Str) (sp : Str → Sp) (E : XK) (r : R2) : R2 := fun x y H Q => match x, y with
  | .ref a, .ref b => DynM K H cs m a fun c => InsM K H cs b (sp c [.ref a, .ref b] H Q E)
  | x, y => r x y H Q
def uDyn (K : Frag) (cs : List Str) (m : Str) (sp : Str → Sp) (E : XK) : V → Hp → VK → Prop := fun x H Q => match x with
  | .ref a => DynM K H cs m a fun c => sp c [.ref a] H Q E
  | _ => False
section
variable {X : Cx} {k : Nat} {cs : List Str} {sp : Str → Sp} {E : XK} {m : Str}
theorem op_dynB {op : Operator} {r : R2} (nf : NfF X.K cs op.info.2) (D : DynF X.prog X.w X.K X.mg X.base k cs (PySem.dunder op.info.2) sp) (hr : Room k X.A) (hx : ∀ σ, PassesAt (L2.CX X.prog X.w) X σ E) (h0 : OpR X (binaryOp op) r) : OpR X (binaryOp op) (oDynB X.K cs (PySem.dunder op.info.2) sp E r) := by
  intro pins s σ H x y v u Q I rx ry q
  have own : ∀ a b, x = .ref a → y = .ref b → (DynM X.K H cs (PySem.dunder op.info.2) a fun c => InsM X.K H cs b (sp c [.ref a, .ref b] H Q E)) → wpAny (model X.prog X.w) X.A (binaryOp op v u) (EP X pins σ Q) X.xe s := by
    intro a b ex ey q
    subst ex ey
    cases rx
    cases ry
    obtain ⟨⟨c, hc, dx, fs, ha, _, ⟨⟨d, hd, dy, gs, hb⟩, q⟩⟩⟩ := q
    obtain ⟨hcl, g, hm, F⟩ := D c hc
    obtain ⟨mA, O, _, _, _, _⟩ := ins_get I.hok ha
    obtain ⟨od, J, _⟩ := O.look
    obtain ⟨mB, O', _, _, _, _⟩ := ins_get I.hok hb
    obtain ⟨od', J', _⟩ := O'.look
    obtain ⟨m, hF⟩ := I.fr
    obtain ⟨nf1, nf2, nf3⟩ := nf.ex c hc
    obtain ⟨nd1, nd2, _⟩ := nf.ex d hd
    obtain ⟨_, g2, hm2, _⟩ := D d hd
    have run : wpAny (model X.prog X.w) X.A (call (.ref g) [.ref a, .ref b]) (PySem.W.CmpBack (EP X pins σ Q)) X.xe s := by
      refine wpAny_mono (run_op (us := [.ref a, .ref b]) (vs := [.ref a, .ref b]) F hr I.env0 hx I (.cons rfl (.cons rfl .nil)) q) (fun w s' z => ?_) fun _ _ x => x
      obtain ⟨z', H', I', rz, qz⟩ := z
      exact SlX.cmpback rz ⟨z', H', I', rz, qz⟩
    by_cases e : He.ga X.K c = He.ga X.K d
    · rw [← e] at J'
      exact PySem.W.binop_K hF I.ok.mod.kin J J'.type nf1 hm.at_ hm.fn run
    · exact binop_two hF I.ok.mod.kin J J' e nf1 nd1 hm.at_ hm.fn hm2.at_ nf2 nd2 ((nf3 d hd).resolve_left e) run
  cases x <;> cases y <;> first | exact own _ _ rfl rfl q | exact h0 pins s σ H _ _ v u Q I rx ry q
theorem u_invDyn (D : DynF X.prog X.w X.K X.mg X.base k cs "__invert__" sp) (hr : Room k X.A) (hx : ∀ σ, PassesAt (L2.CX X.prog X.w) X σ E) : UnR X (unaryOp .Invert) (uDyn X.K cs "__invert__" sp E) := by
  intro pins s σ H x v Q I rx q
  cases x <;> try exact q.elim
  cases rx
  obtain ⟨⟨c, hc, dx, fs, ha, _, q⟩⟩ := q
  obtain ⟨hcl, g, hm, F⟩ := D c hc
  obtain ⟨mA, O, _, _, _, _⟩ := ins_get I.hok ha
  obtain ⟨od, J, _⟩ := O.look
  obtain ⟨m, hF⟩ := I.fr
  exact PySem.W.ksp_inv hF I.ok.mod.kin J hm.at_ hm.fn (run_op (us := [.ref _]) (vs := [.ref _]) F hr I.env0 hx I (.cons rfl .nil) q)
end
end S
namespace S
open PySem PySem.Spec PyProof.Rows L2
structure IsT (x y : V) (k : Bool → Prop) : Prop where
  ex : (∃ a b, x = .bl a ∧ y = .bl b ∧ k (decide (a = b))) ∨ (x = .non ∧ (∃ b, y = .bl b) ∧ k false)
theorem IsT.bl {a b : Bool} {k : Bool → Prop} (q : k (decide (a = b))) : IsT (.bl a) (.bl b) k := ⟨.inl ⟨a, b, rfl, rfl, q⟩⟩
theorem IsT.non {b : Bool} {k : Bool → Prop} (q : k false) : IsT .non (.bl b) k := ⟨.inr ⟨rfl, ⟨b, rfl⟩, q⟩⟩
def oIsT : R2 := fun x y H Q => IsT x y fun b => Q (.bl b) H
def oNotT : R2 := fun x y H Q => IsT x y fun b => Q (.bl (!b)) H
theorem o_isT {X : Cx} : OpR X (compareOp .Is) oIsT := by
  intro pins s σ H x y v u Q I rx ry h
  rcases h.ex with ⟨a, b, rfl, rfl, hq⟩ | ⟨rfl, ⟨b, rfl⟩, hq⟩
  · exact op_isBl pins s σ H _ _ v u Q I rx ry ⟨_, _, rfl, rfl, hq⟩
  · cases rx
    cases (show u = Value.bool b from ry)
    exact wpAny_is_other rfl (fun z => by cases z) ⟨.bl false, H, I, rfl, hq⟩
theorem o_notT {X : Cx} : OpR X (compareOp .IsNot) oNotT := by
  intro pins s σ H x y v u Q I rx ry h
  rcases h.ex with ⟨a, b, rfl, rfl, hq⟩ | ⟨rfl, ⟨b, rfl⟩, hq⟩
  · exact op_notBl pins s σ H _ _ v u Q I rx ry ⟨_, _, rfl, rfl, hq⟩
  · cases rx
    cases (show u = Value.bool b from ry)
    exact wpAny_isNot_other rfl (fun z => by cases z) ⟨.bl true, H, I, rfl, hq⟩
end S
namespace S
open PySem PySem.Spec PyProof.Rows L2
/-- == of data, or of two dicts with the same keys and flat values -/
structure EqDc (K : Frag) (H : Hp) (a b : Addr) (k : Bool → Prop) : Prop where
  ex : EqD K H (.ref a) (.ref b) k ∨ ∃ ks ls, H a = some (.dK ks) ∧ H b = some (.dK ls) ∧ ks.length = ls.length ∧ (∀ p ∈ ks, valV ls p.1 = some p.2 ∧ flatB p.2 = true) ∧ k true
theorem EqDc.d {K : Frag} {H : Hp} {a b : Addr} {k : Bool → Prop} {ks ls : List (Key × V)} (h1 : H a = some (.dK ks)) (h2 : H b = some (.dK ls)) (hl : ks.length = ls.length) (h : ∀ p ∈ ks, valV ls p.1 = some p.2 ∧ flatB p.2 = true) (q : k true) : EqDc K H a b k := ⟨.inr ⟨ks, ls, h1, h2, hl, h, q⟩⟩
def oNeDc (K : Frag) : R2 := fun x y H Q => match x, y with
  | .ref a, .ref b => EqDc K H a b fun r => Q (.bl (!r)) H
  | x, y => oNe K x y H Q
def oEqDc (K : Frag) : R2 := fun x y H Q => match x, y with
  | .ref a, .ref b => EqDc K H a b fun r => Q (.bl r) H
  | x, y => oEq K x y H Q
theorem op_neDc {X : Cx} (hu : X.A.units + 64 < cLine) : OpR X (compareOp .NotEq) (oNeDc X.K) := by
  have h0 : OpR X (compareOp .NotEq) (oNe X.K) := o_ne hu
  have h1 : OpR X (compareOp .NotEq) rNeDA := op_ne_dictA (by omega)
  intro pins s σ H x y v u Q I rx ry q
  have two : ∀ a b, x = .ref a → y = .ref b → (EqDc X.K H a b fun r => Q (.bl (!r)) H) → wpAny (model X.prog X.w) X.A (compareOp .NotEq v u) (EP X pins σ Q) X.xe s := by
    intro a b ex ey q1
    clear q
    subst ex ey
    rcases q1.ex with q | ⟨ks, ls, ha, hb, hl, hp, q⟩
    · exact h0 pins s σ H _ _ v u Q I rx ry (show oNe X.K (.ref a) (.ref b) H Q from q)
    · exact h1 pins s σ H _ _ v u Q I rx ry ⟨a, b, ks, ls, rfl, rfl, ha, hb, hl, hp, q⟩
  cases x <;> cases y <;> first | exact two _ _ rfl rfl q | exact h0 pins s σ H _ _ v u Q I rx ry q
theorem op_eqDc {X : Cx} (hu : X.A.units + 64 < cLine) : OpR X (compareOp .Eq) (oEqDc X.K) := by
  have h0 : OpR X (compareOp .Eq) (oEq X.K) := o_eq hu
  have h1 : OpR X (compareOp .Eq) rEqDA := op_eq_dictA (by omega)
  intro pins s σ H x y v u Q I rx ry q
  have two : ∀ a b, x = .ref a → y = .ref b → (EqDc X.K H a b fun r => Q (.bl r) H) → wpAny (model X.prog X.w) X.A (compareOp .Eq v u) (EP X pins σ Q) X.xe s := by
    intro a b ex ey q1
    clear q
    subst ex ey
    rcases q1.ex with q | ⟨ks, ls, ha, hb, hl, hp, q⟩
    · exact h0 pins s σ H _ _ v u Q I rx ry (show oEq X.K (.ref a) (.ref b) H Q from q)
    · exact h1 pins s σ H _ _ v u Q I rx ry ⟨a, b, ks, ls, rfl, rfl, ha, hb, hl, hp, q⟩
  cases x <;> cases y <;> first | exact two _ _ rfl rfl q | exact h0 pins s σ H _ _ v u Q I rx ry q
end S
namespace S
open PySem PySem.Spec PyProof.Rows L2
structure InD (K : Frag) (H : Hp) (c : Str) (a : Addr) (q : Prop) : Prop where
  ex : ∃ dx fs, H a = some (.ins (He.ga K c) dx fs)
  q : q
theorem InD.of {K : Frag} {H : Hp} {c : Str} {a dx : Addr} {fs : List (Str × V)} {q : Prop} (h : H a = some (.ins (He.ga K c) dx fs)) (h2 : q) : InD K H c a q := ⟨⟨dx, fs, h⟩, h2⟩
def oOwnD (K : Frag) (c : Str) (sp : Sp) (E : XK) (r : R2) : R2 := fun x y H Q => match x, y with
  | .ref a, .ref b => InD K H c a (InD K H c b (sp [.ref a, .ref b] H Q E))
  | x, y => r x y H Q
def uOwnD (K : Frag) (c : Str) (sp : Sp) (E : XK) : V → Hp → VK → Prop := fun x H Q => match x with
  | .ref a => InD K H c a (sp [.ref a] H Q E)
  | _ => False
/-- what the model takes the right side of == for -/
inductive RTD (K : Frag) (H : Hp) : V → Value → Prop where
  | dat {y : V} {d : PyData} (h : Dp K H y d) : RTD K H y (PySem.W.dataType d)
  | ins {b C dx : Addr} {vs : List (Option V)} (h : SlX.Slt H b C dx vs) : RTD K H (.ref b) (.ref C)
  | dic {b C dx : Addr} {fs : List (Str × V)} (h : H b = some (.ins C dx fs)) : RTD K H (.ref b) (.ref C)
structure EqD2 (K : Frag) (c : Str) (sp : Sp) (E : XK) (H : Hp) (a : Addr) (y : V) (Q : VK) : Prop where
  ex : (∃ t, RTD K H y t ∧ PySem.W.notFirst K (He.ga K c) t = true ∧ InD K H c a (sp [.ref a, y] H Q E)) ∨ oEq K (.ref a) y H Q
theorem EqD2.of {K : Frag} {c : Str} {sp : Sp} {E : XK} {H : Hp} {a dx : Addr} {y : V} {Q : VK} {t : Value} {fs : List (Str × V)} (r : RTD K H y t) (n : PySem.W.notFirst K (He.ga K c) t = true) (h : H a = some (.ins (He.ga K c) dx fs)) (q : sp [.ref a, y] H Q E) : EqD2 K c sp E H a y Q := ⟨.inl ⟨t, r, n, .of h q⟩⟩
theorem EqD2.dat {K : Frag} {c : Str} {sp : Sp} {E : XK} {H : Hp} {a : Addr} {y : V} {Q : VK} (q : oEq K (.ref a) y H Q) : EqD2 K c sp E H a y Q := ⟨.inr q⟩
def oEqD2 (K : Frag) (c : Str) (sp : Sp) (E : XK) : R2 := fun x y H Q => match x with
  | .ref a => EqD2 K c sp E H a y Q
  | x => oEq K x y H Q
section
variable {X : Cx} {k : Nat} {g : Addr} {sp : Sp} {E : XK} {c : Str} {ups : List Str} {tys : List String}
theorem op_ownBD {op : Operator} {r : R2} (mf : MF X.K c ups tys) (hm : Meth X.K (He.ga X.K c) (PySem.dunder op.info.2) g) (F : FnR X.prog X.w X.K X.mg X.base (L2.CX X.prog X.w) k g sp) (hr : Room k X.A) (hx : ∀ σ, PassesAt (L2.CX X.prog X.w) X σ E) (h0 : OpR X (binaryOp op) r) : OpR X (binaryOp op) (oOwnD X.K c sp E r) := by
  intro pins s σ H x y v u Q I rx ry q
  have own : ∀ a b, x = .ref a → y = .ref b → InD X.K H c a (InD X.K H c b (sp [.ref a, .ref b] H Q E)) → wpAny (model X.prog X.w) X.A (binaryOp op v u) (EP X pins σ Q) X.xe s := by
    intro a b ex ey q
    subst ex ey
    cases rx
    cases ry
    obtain ⟨⟨dx, fs, ha⟩, ⟨⟨dy, gs, hb⟩, q⟩⟩ := q
    obtain ⟨mA, O, _, _, _, _⟩ := ins_get I.hok ha
    obtain ⟨od, J, _⟩ := O.look
    obtain ⟨mB, O', _, _, _, _⟩ := ins_get I.hok hb
    obtain ⟨od', J', _⟩ := O'.look
    obtain ⟨m, hF⟩ := I.fr
    refine PySem.W.binop_K hF I.ok.mod.kin J J'.type (mf_first mf) hm.at_ hm.fn ?_
    refine wpAny_mono (run_op (us := [.ref a, .ref b]) (vs := [.ref a, .ref b]) F hr I.env0 hx I (.cons rfl (.cons rfl .nil)) q) (fun w s' z => ?_) fun _ _ x => x
    obtain ⟨z', H', I', rz, qz⟩ := z
    exact SlX.cmpback rz ⟨z', H', I', rz, qz⟩
  cases x <;> cases y <;> first | exact own _ _ rfl rfl q | exact h0 pins s σ H _ _ v u Q I rx ry q
theorem u_invD (hm : Meth X.K (He.ga X.K c) "__invert__" g) (F : FnR X.prog X.w X.K X.mg X.base (L2.CX X.prog X.w) k g sp) (hr : Room k X.A) (hx : ∀ σ, PassesAt (L2.CX X.prog X.w) X σ E) : UnR X (unaryOp .Invert) (uOwnD X.K c sp E) := by
  intro pins s σ H x v Q I rx q
  cases x <;> try exact q.elim
  cases rx
  obtain ⟨⟨dx, fs, ha⟩, q⟩ := q
  obtain ⟨mA, O, _, _, _, _⟩ := ins_get I.hok ha
  obtain ⟨od, J, _⟩ := O.look
  obtain ⟨m, hF⟩ := I.fr
  exact PySem.W.ksp_inv hF I.ok.mod.kin J hm.at_ hm.fn (run_op (us := [.ref _]) (vs := [.ref _]) F hr I.env0 hx I (.cons rfl .nil) q)
theorem op_eqD2 (hm : Meth X.K (He.ga X.K c) "__eq__" g) (F : FnR X.prog X.w X.K X.mg X.base (L2.CX X.prog X.w) k g sp) (hr : Room k X.A) (hx : ∀ σ, PassesAt (L2.CX X.prog X.w) X σ E) : OpR X (compareOp .Eq) (oEqD2 X.K c sp E) := by
  have h0 : OpR X (compareOp .Eq) (oEq X.K) := o_eq hr.units
  intro pins s σ H x y v u Q I rx ry q
  have own : ∀ a, x = .ref a → EqD2 X.K c sp E H a y Q → wpAny (model X.prog X.w) X.A (compareOp .Eq v u) (EP X pins σ Q) X.xe s := by
    intro a ex q1
    clear q
    subst ex
    rcases q1.ex with ⟨t, hy, hn, ⟨⟨dx, fs, ha⟩, q⟩⟩ | q
    · cases rx
      obtain ⟨mA, O, _, _, _, _⟩ := ins_get I.hok ha
      obtain ⟨od, J, _⟩ := O.look
      obtain ⟨m, hF⟩ := I.fr
      have hb : PySem.W.Looks (model X.prog X.w) s.heap (typeOf u) t := by
        cases hy with
        | dat h =>
          obtain ⟨as, hr⟩ := Dp.reads I _ _ _ h ry
          exact PySem.W.looks_reads hr
        | ins h =>
          cases ry
          obtain ⟨sl', od', _, J', _⟩ := SlX.slt_inst I h
          exact J'.type
        | dic h =>
          cases ry
          obtain ⟨mB, O', _, _, _, _⟩ := ins_get I.hok h
          obtain ⟨od', J', _⟩ := O'.look
          exact J'.type
      show wpAny _ _ (richCompare .Eq (.ref a) u) _ _ _
      refine PySem.W.cmp_K (op := .Eq) (tb := t) hr.units0 hF I.ok.mod.kin J hb hn hm.at_ hm.fn ?_
      refine wpAny_mono (run_op (us := [.ref a, u]) (vs := [.ref a, y]) F hr I.env0 hx I (.cons rfl (.cons ry .nil)) q) (fun w s' z => ?_) fun _ _ x => x
      obtain ⟨z', H', I', rz, qz⟩ := z
      exact SlX.cmpback rz ⟨z', H', I', rz, qz⟩
    · exact h0 pins s σ H _ _ v u Q I rx ry q
  cases x <;> first
    | exact own _ rfl q
    | exact h0 pins s σ H _ _ v u Q I rx ry q
end
/-! ### tuple displays as tracked tuples -/
structure NewTK (H : Hp) (ys : List V) (Q : V → Hp → Prop) : Prop where
  go : ∀ p, H p = none → Q (.ref p) (upd H p (.tup ys))
def dTupK (t : TA) : TE := fun σ H Q => t σ H fun xs H1 => Need (xs.length ≤ sizeLine) (NewTK H1 xs Q)
theorem pe_tupK {X : Cx} {es : List Expr} {t : TA} {x1} {pos : Pos} (h : PA X es t) : PE X (.Tuple es x1 pos) (dTupK t) := by
  refine ⟨fun pins s σ H Q I hq => ?_⟩
  refine wpAny_Tuple_spliced (thn (h.run pos pins s σ H _ I hq) fun us s1 ⟨xs, H1, I1, r, ⟨z, ⟨q⟩⟩⟩ => ⟨by rw [← r.length]; exact z, ?_⟩)
  have hf : H1 s1.heap.objs.size = none := I1.hok.fresh (Nat.le_refl _)
  refine ⟨.ref s1.heap.objs.size, upd H1 s1.heap.objs.size (.tup xs), I1.laid (t' := s1.toks) (fun b u e => Heap.get?_push_of_some _ e) (Nat.le_refl _) ?_, rfl, q _ hf⟩
  exact ⟨z, us, r, ⟨_, Heap.get?_push_size _ rfl, rfl, _, rfl⟩⟩
/-! ### dicts whose keys are tuples -/
theorem DG.t {H : Hp} {a b : Addr} {kvs : List (List Key × V)} {ks : List Key} {v : V} {k : V → Prop} (e : L2.Rd H a (.dT kvs)) (eb : H b = some (.tup (ks.map kV))) (l : valV kvs ks = some v) (q : k v) : DG H a (.ref b) k := ⟨v, .inr ⟨kvs, ks, b, e, rfl, eb, l.symm⟩, q⟩
theorem DIn.t {H : Hp} {a b : Addr} {kvs : List (List Key × V)} {ks : List Key} {k : Bool → Prop} (e : L2.Rd H a (.dT kvs)) (eb : H b = some (.tup (ks.map kV))) (q : k (valV kvs ks).isSome) : DIn H a (.ref b) k := ⟨_, .inr ⟨kvs, ks, b, e, rfl, eb, rfl⟩, q⟩
theorem DGo.t {H : Hp} {a b : Addr} {kvs : List (List Key × V)} {ks : List Key} {k : Option V → Prop} (e : L2.Rd H a (.dT kvs)) (eb : H b = some (.tup (ks.map kV))) (q : k (valV kvs ks)) : DGo H a (.ref b) k := ⟨_, .inr ⟨kvs, ks, b, e, rfl, eb, rfl⟩, q⟩
theorem StD.t {H : Hp} {a b : Addr} {kvs : List (List Key × V)} {ks : List Key} {v : V} {k : Hp → Prop} (e : H a = some (.dT kvs)) (eb : H b = some (.tup (ks.map kV))) (hl : kvs.length < sizeLine) (q : k (upd H a (.dT (putK kvs ks v)))) : StD H a (.ref b) v k := ⟨_, DPut.t e eb hl, q⟩
end S
namespace S
open PySem PySem.Spec PyProof.Rows L2
def dBinD (K : Frag) (c : Str) (sp : Sp) (E : L2.St → XK) (ta tb : TE) : TE := fun σ H Q => ta σ H fun x H1 => tb σ H1 fun y H2 => match x, y with
  | .ref a, .ref b => InD K H2 c a (InD K H2 c b (sp [.ref a, .ref b] H2 Q (E σ)))
  | _, _ => False
section
variable {X : Cx} {k : Nat} {g : Addr} {sp : Sp} {E : L2.St → XK} {c : Str} {ups : List Str} {tys : List String}
theorem run_op1 {A : Around} {pins : List (Addr × Obj)} {σ : L2.St} {H : Hp} {s : Shared} {Q : VK} {us : List Value} {vs : List V} {E : XK} (F : FnR X.prog X.w X.K X.mg X.base (L2.CX X.prog X.w) k g sp) (hr : Room k A) (e0 : Env0 X.prog X.w X.K X.mg X.base A X.stack s H) (hx : PassesAt (L2.CX X.prog X.w) X σ E)
    (I : Inv X pins σ H s) (r : Vals vs us) (h : sp vs H Q E) : wpAny (model X.prog X.w) A (call (.ref g) us) (EP X pins σ Q) X.xe s := by
  refine wpAny_call (codeAny_mono (F A X.stack s H us vs Q E hr e0 r h) fun r s' hq => ?_)
  cases r with
  | error e => exact hx pins H s e s' I hq
  | ok fl =>
    cases fl with
    | ret u => exact I.after hq
    | next => exact False.elim hq
    | brk => exact False.elim hq
    | cont => exact False.elim hq
theorem pe_binD {op : Operator} {a b : Expr} {ta tb : TE} {pos : Pos} (mf : MF X.K c ups tys) (hm : Meth X.K (He.ga X.K c) (PySem.dunder op.info.2) g) (F : FnR X.prog X.w X.K X.mg X.base (L2.CX X.prog X.w) k g sp) (hr : Room k X.A) (hx : ∀ σ, PassesAt (L2.CX X.prog X.w) X σ (E σ)) (ha : PE X a ta) (hb : PE X b tb) : PE X (.BinOp a op b pos) (dBinD X.K c sp E ta tb) := by
  refine ⟨fun pins s σ H Q I h => ?_⟩
  refine wpAny_BinOp (thn (ha.run pins s σ H _ I h) fun v s1 ⟨x, H1, I1, r1, q1⟩ => thn (hb.run pins s1 σ H1 _ I1 q1) fun u s2 ⟨y, H2, I2, r2, q2⟩ => ?_)
  cases x <;> cases y <;> try exact q2.elim
  cases r1
  cases r2
  obtain ⟨⟨dx, fs, ha⟩, ⟨⟨dy, gs, hb⟩, q⟩⟩ := q2
  obtain ⟨mA, O, _, _, _, _⟩ := ins_get I2.hok ha
  obtain ⟨od, J, _⟩ := O.look
  obtain ⟨mB, O', _, _, _, _⟩ := ins_get I2.hok hb
  obtain ⟨od', J', _⟩ := O'.look
  obtain ⟨m, hF⟩ := I2.fr
  refine PySem.W.binop_K hF I2.ok.mod.kin J J'.type (mf_first mf) hm.at_ hm.fn ?_
  refine wpAny_mono (run_op1 (us := [.ref _, .ref _]) (vs := [.ref _, .ref _]) F hr I2.env0 (hx σ) I2 (.cons rfl (.cons rfl .nil)) q) (fun w s' z => ?_) fun _ _ x => x
  obtain ⟨z', H', I', rz, qz⟩ := z
  exact SlX.cmpback rz ⟨z', H', I', rz, qz⟩
end
/-- except A as e: .. except B as e: .. -/
theorem ps_try2n {X : Cx} {c1 c2 n m : Str} {i j : Nat} {body s1 s2 : List Stmt} {b1 b2 : Stmt} {np1 np2 p1 p2 pos : Pos} {tb : WX → TS} {ts1 ts2 : Addr → Value → Option Addr → TS} {Wout : WX} (hN : X.N.Nodup) (g1 : X.mg c1 = some (.ref (He.ga X.K c1))) (g2 : X.mg c2 = some (.ref (He.ga X.K c2))) (tk : Takes X Wout)
    (hb : ∀ (W : WX) (pn : List (Addr × Obj)) (xe : Value → Shared → Prop), Takes (X.tr pn xe) W → PassesOwn (model X.prog X.w) X.A X.env xe → PSs (X.tr pn xe) body (tb W)) (h1 : SuOk X (b1 :: s1) ts1) (h2 : SuOk X (b2 :: s2) ts2)
    (hs : X.stack = X.env :: X.outer := by rfl) (hf : X.env.frame = some X.env.locals := by rfl) (hi : X.N[i]? = some n := by rfl) (hln : X.env.kindOf n = some .local := by rfl) (hj : X.N[j]? = some m := by rfl) (hlm : X.env.kindOf m = some .local := by rfl) (hg1 : Gl X c1 := by rfl) (hg2 : Gl X c2 := by rfl) (hd1 : (c1 == ("__debug__" : Str)) = false := by decide) (hd2 : (c2 == ("__debug__" : Str)) = false := by decide) :
    PS X (.Try body [.ExceptHandler (some (.Name c1 np1)) (some n) (b1 :: s1) p1, .ExceptHandler (some (.Name c2 np2)) (some m) (b2 :: s2) p2] [] [] pos) (dTryC X.K [(c1, some i, ts1), (c2, some j, ts2)] tb Wout) :=
  ps_try_cl hN tk hb (.named ⟨hg1, hd1, .inl g1⟩ hi hln h1 (.named ⟨hg2, hd2, .inl g2⟩ hj hlm h2 .nil)) hs hf

/-! i | j of numbers -/
def oOr : R2 := oI0 fun i j => Builtin.bitOr i j
theorem o_or {X : Cx} : OpR X (binaryOp .BitOr) oOr := oI0_of op_or
end S
namespace S
open PySem PySem.Spec PyProof.Rows L2
def top (i : Nat) : Stmt := PySem.Challenge.pw_slicedcolumns_k46_answer_algebra.main.body.getD i (.Pass ⟨0, 0, 0, 0⟩)
abbrev s__law_draw : Stmt := top 21
abbrev s__law_masks : Stmt := top 24
abbrev s_Bitmapdd_initdd : Stmt := inClass (top 17) 1
abbrev s__law_bitmap : Stmt := top 23
abbrev s_next_end : Stmt := top 9
abbrev s_swept : Stmt := top 10
abbrev s_Bitmap_paired : Stmt := inClass (top 17) 14
abbrev s_Bitmapdd_anddd : Stmt := inClass (top 17) 16
abbrev s_Bitmapdd_booldd : Stmt := inClass (top 17) 22
abbrev s_Bitmapdd_subdd : Stmt := inClass (top 17) 19
abbrev s_Answerdd_initdd : Stmt := inClass (top 19) 0
abbrev s__law_tried : Stmt := top 26
abbrev s__law_good : Stmt := top 25
abbrev s_Answer_unknown : Stmt := inClass (top 19) 1
abbrev s__law_is_number : Stmt := top 22
abbrev s_Bitmapdd_containsdd : Stmt := inClass (top 17) 15
abbrev s__law_is : Stmt := top 28
abbrev s_Answerdd_invertdd : Stmt := inClass (top 19) 5
abbrev s_Answer_surely : Stmt := inClass (top 19) 2
abbrev s_Bitmapdd_eqdd : Stmt := inClass (top 17) 21
abbrev s_Answerdd_eqdd : Stmt := inClass (top 19) 6
abbrev s_Bitmapdd_ordd : Stmt := inClass (top 17) 17
abbrev s_Answerdd_anddd : Stmt := inClass (top 19) 3
abbrev s_Answerdd_ordd : Stmt := inClass (top 19) 4
abbrev s__law_joined : Stmt := top 27
abbrev s__law_alone : Stmt := top 29
abbrev s__law_both : Stmt := top 30
abbrev s_law : Stmt := top 31
def hfn : List DfX := (⟨fun K => He.fAd K ("_law_draw", none), "_law_draw", "_law_draw", defArgs s__law_draw, defBody s__law_draw, defScope s__law_draw, [], [], []⟩ : DfX) :: (⟨fun K => He.fAd K ("_law_masks", none), "_law_masks", "_law_masks", defArgs s__law_masks, defBody s__law_masks, defScope s__law_masks, [], [], []⟩ : DfX) :: (⟨fun K => He.fAd K ("Bitmap", some "__init__"), "__init__", "Bitmap.__init__", defArgs s_Bitmapdd_initdd, defBody s_Bitmapdd_initdd, defScope s_Bitmapdd_initdd, [.adr (He.dflAt ("Bitmap", some "__init__") 0)], [], []⟩ : DfX) :: (⟨fun K => He.fAd K ("_law_bitmap", none), "_law_bitmap", "_law_bitmap", defArgs s__law_bitmap, defBody s__law_bitmap, defScope s__law_bitmap, [], [], []⟩ : DfX) :: (⟨fun K => He.fAd K ("next_end", none), "next_end", "next_end", defArgs s_next_end, defBody s_next_end, defScope s_next_end, [], [], []⟩ : DfX) :: (⟨fun K => He.fAd K ("swept", none), "swept", "swept", defArgs s_swept, defBody s_swept, defScope s_swept, [], [], []⟩ : DfX) :: (⟨fun K => He.fAd K ("Bitmap", some "paired"), "paired", "Bitmap.paired", defArgs s_Bitmap_paired, defBody s_Bitmap_paired, defScope s_Bitmap_paired, [], [], []⟩ : DfX) :: (⟨fun K => He.fAd K ("Bitmap", some "__and__"), "__and__", "Bitmap.__and__", defArgs s_Bitmapdd_anddd, defBody s_Bitmapdd_anddd, defScope s_Bitmapdd_anddd, [], [], []⟩ : DfX) :: (⟨fun K => He.fAd K ("Bitmap", some "__bool__"), "__bool__", "Bitmap.__bool__", defArgs s_Bitmapdd_booldd, defBody s_Bitmapdd_booldd, defScope s_Bitmapdd_booldd, [], [], []⟩ : DfX) :: (⟨fun K => He.fAd K ("Bitmap", some "__sub__"), "__sub__", "Bitmap.__sub__", defArgs s_Bitmapdd_subdd, defBody s_Bitmapdd_subdd, defScope s_Bitmapdd_subdd, [], [], []⟩ : DfX) :: (⟨fun K => He.fAd K ("Answer", some "__init__"), "__init__", "Answer.__init__", defArgs s_Answerdd_initdd, defBody s_Answerdd_initdd, defScope s_Answerdd_initdd, [], [], []⟩ : DfX) :: (⟨fun K => He.fAd K ("_law_tried", none), "_law_tried", "_law_tried", defArgs s__law_tried, defBody s__law_tried, defScope s__law_tried, [], [], []⟩ : DfX) :: (⟨fun K => He.fAd K ("_law_good", none), "_law_good", "_law_good", defArgs s__law_good, defBody s__law_good, defScope s__law_good, [], [], []⟩ : DfX) :: (⟨fun K => uA K "Answer" "unknown", "unknown", "Answer.unknown", defArgs s_Answer_unknown, defBody s_Answer_unknown, defScope s_Answer_unknown, [], [], []⟩ : DfX) :: (⟨fun K => He.fAd K ("_law_is_number", none), "_law_is_number", "_law_is_number", defArgs s__law_is_number, defBody s__law_is_number, defScope s__law_is_number, [], [], []⟩ : DfX) :: (⟨fun K => He.fAd K ("Bitmap", some "__contains__"), "__contains__", "Bitmap.__contains__", defArgs s_Bitmapdd_containsdd, defBody s_Bitmapdd_containsdd, defScope s_Bitmapdd_containsdd, [], [], []⟩ : DfX) :: (⟨fun K => He.fAd K ("_law_is", none), "_law_is", "_law_is", defArgs s__law_is, defBody s__law_is, defScope s__law_is, [], [], []⟩ : DfX) :: (⟨fun K => He.fAd K ("Answer", some "__invert__"), "__invert__", "Answer.__invert__", defArgs s_Answerdd_invertdd, defBody s_Answerdd_invertdd, defScope s_Answerdd_invertdd, [], [], []⟩ : DfX) :: (⟨fun K => He.fAd K ("Answer", some "surely"), "surely", "Answer.surely", defArgs s_Answer_surely, defBody s_Answer_surely, defScope s_Answer_surely, [], [], []⟩ : DfX) :: (⟨fun K => He.fAd K ("Bitmap", some "__eq__"), "__eq__", "Bitmap.__eq__", defArgs s_Bitmapdd_eqdd, defBody s_Bitmapdd_eqdd, defScope s_Bitmapdd_eqdd, [], [], []⟩ : DfX) :: (⟨fun K => He.fAd K ("Answer", some "__eq__"), "__eq__", "Answer.__eq__", defArgs s_Answerdd_eqdd, defBody s_Answerdd_eqdd, defScope s_Answerdd_eqdd, [], [], []⟩ : DfX) :: (⟨fun K => He.fAd K ("Bitmap", some "__or__"), "__or__", "Bitmap.__or__", defArgs s_Bitmapdd_ordd, defBody s_Bitmapdd_ordd, defScope s_Bitmapdd_ordd, [], [], []⟩ : DfX) :: (⟨fun K => He.fAd K ("Answer", some "__and__"), "__and__", "Answer.__and__", defArgs s_Answerdd_anddd, defBody s_Answerdd_anddd, defScope s_Answerdd_anddd, [], [], []⟩ : DfX) :: (⟨fun K => He.fAd K ("Answer", some "__or__"), "__or__", "Answer.__or__", defArgs s_Answerdd_ordd, defBody s_Answerdd_ordd, defScope s_Answerdd_ordd, [], [], []⟩ : DfX) :: (⟨fun K => He.fAd K ("_law_joined", none), "_law_joined", "_law_joined", defArgs s__law_joined, defBody s__law_joined, defScope s__law_joined, [], [], []⟩ : DfX) :: (⟨fun K => He.fAd K ("_law_alone", none), "_law_alone", "_law_alone", defArgs s__law_alone, defBody s__law_alone, defScope s__law_alone, [], [], []⟩ : DfX) :: (⟨fun K => He.fAd K ("_law_both", none), "_law_both", "_law_both", defArgs s__law_both, defBody s__law_both, defScope s__law_both, [], [], []⟩ : DfX) :: (⟨fun K => He.fAd K ("law", none), "law", "law", defArgs s_law, defBody s_law, defScope s_law, [], [], []⟩ : DfX) :: []
abbrev hP : Program := PySem.Challenge.rw_slicedcolumns_k46_answer_algebra.prog
def hfx : List (Frag → Bool) := (cfB "Bitmap" ["ends", "size"]) :: (dfB "Answer" [] ["rows", "yes", "no"]) :: (propB "Answer" "unknown") :: (rsB "BadAnswer") :: (rsB "BadBitmap") :: (rsB "SizesDiffer") :: (fun K => He.tupB K "AND" [.int 0, .int 0, .int 0, .int 1]) :: (fun K => He.tupB K "LESS" [.int 0, .int 0, .int 1, .int 0]) :: (fun K => He.tupB K "OR" [.int 0, .int 1, .int 1, .int 1]) :: (exfB "BadAnswer" ["SliceError"]) :: (exfB "BadBitmap" ["SliceError"]) :: (exfB "SizesDiffer" ["SliceError"]) :: (exfB "SliceError" []) :: []
def hfa : List He.Fa := (.glo "AND") :: (.glo "Answer") :: (.glo "BadAnswer") :: (.glo "BadBitmap") :: (.glo "Bitmap") :: (.glo "LESS") :: (.glo "OR") :: (.glo "SizesDiffer") :: (.glo "SliceError") :: (.glo "_law_alone") :: (.glo "_law_bitmap") :: (.glo "_law_both") :: (.glo "_law_draw") :: (.glo "_law_good") :: (.glo "_law_is") :: (.glo "_law_is_number") :: (.glo "_law_joined") :: (.glo "_law_masks") :: (.glo "_law_tried") :: (.glo "law") :: (.glo "next_end") :: (.glo "swept") :: (.free "abs") :: (.free "bool") :: (.free "int") :: (.free "isinstance") :: (.free "len") :: (.free "range") :: (.free "tuple") :: (.mkr "Answer") :: (.mkr "Bitmap") :: (.meth "Answer" "surely") :: (.meth "Answer" "__and__") :: (.meth "Answer" "__eq__") :: (.meth "Answer" "__invert__") :: (.meth "Answer" "__or__") :: (.meth "Bitmap" "paired") :: (.meth "Bitmap" "__and__") :: (.meth "Bitmap" "__bool__") :: (.meth "Bitmap" "__contains__") :: (.meth "Bitmap" "__eq__") :: (.meth "Bitmap" "__or__") :: (.meth "Bitmap" "__sub__") :: []
abbrev hR : PySem.W.OpenRow := PySem.W.OpenLaw.row PySem.Challenge.rw_slicedcolumns_k46_answer_algebra
def hloose : List Str := "_wall" :: "SliceError" :: "BadBitmap" :: "SizesDiffer" :: "NoSuchRow" :: "NoSuchRank" :: "BadAnswer" :: "next_end" :: "swept" :: "turned" :: "AND" :: "OR" :: "XOR" :: "LESS" :: "Bitmap" :: "Answer" :: "_law_draw" :: "_law_is_number" :: "_law_bitmap" :: "_law_masks" :: "_law_good" :: "_law_tried" :: "_law_joined" :: "_law_is" :: "_law_alone" :: "_law_both" :: []
def hnm : List Str := "SliceError" :: "BadBitmap" :: "SizesDiffer" :: "BadAnswer" :: "next_end" :: "swept" :: "AND" :: "OR" :: "LESS" :: "Bitmap" :: "Answer" :: "_law_draw" :: "_law_is_number" :: "_law_bitmap" :: "_law_masks" :: "_law_good" :: "_law_tried" :: "_law_joined" :: "_law_is" :: "_law_alone" :: "_law_both" :: "law" :: []
abbrev hhk : PySem.W.Hook := hookY hnm hfa hfx hfn
def hob (s : PySem.W.SharedT) : AlX := obsYG hnm hfa hfx hfn (HandSHeadRun.getT s)
theorem hob_eq (s : PySem.W.SharedT) : hob s = hhk.obs s.abs := obsYG_eq (HandSHeadRun.getT_eq s)
section
open HandSHeadRun PySem.W
theorem hq1 (w : World) (os : OsState) : (HandSHeadRun.endF (HandSHeadRun.stepQ (HandSHeadRun.denQ HandSHeadRun.tabQ) hR.prog w) 16000 hR.prog w os).map (fun s => (HandSHeadRun.looksF hR.prog (boot_heap w.params) s.abs, HandSHeadRun.seenQ (PySem.W.view hR.prog [31]) hloose (importedModules hR.prog.main.body) (fun s => xlAt (PySem.W.view hR.prog [31]) [] s && recOk hR.toRowW.records s) s.abs)) = some (true, openGood (PySem.W.view hR.prog [31]) hloose) := by kernel_rfl
theorem hq2 (w : World) (os : OsState) : (HandSHeadRun.endF (HandSHeadRun.stepQ (HandSHeadRun.denQ HandSHeadRun.tabQ) hR.prog w) 16000 hR.prog w os).map (fun s => hob s) = some (hhk.val w) := by kernel_rfl
end
theorem hrun (w : World) : HandSHeadRun.RunEq hR (PySem.W.view hR.prog [31]) hhk hob 16000 hloose w := by
  intro os
  exact run_split2 (hq1 w os) (hq2 w os)
end S
/-! ## short tactics (local rows) -/
open PySem PySem.Spec PyProof.Rows L2 S in
local macro_rules | `(tactic| walk_at "ne") => `(tactic| first | assumption | (apply Ne.symm; assumption) | (apply ne_of_none <;> assumption))
open PySem PySem.Spec PyProof.Rows L2 S in
local macro_rules | `(tactic| walk_at "hp") => `(tactic| first | assumption | exact upd_same | (refine' up_of ?n1 ?h1; (case n1 => walk_at "ne"); (case h1 => walk_at "hp")))
open PySem PySem.Spec PyProof.Rows L2 S in
local macro_rules | `(tactic| walk_at "sx") => `(tactic| first | assumption | exact SameX.refl _ _ | (refine' SameX.put ?h1; (case h1 => walk_at "sx")))
open PySem PySem.Spec PyProof.Rows L2 S in
local macro_rules | `(tactic| walk_at "sl") => `(tactic| first | assumption | (refine' appS ?h1 ?e1; (case h1 => assumption); (case e1 => walk_at "sx")) | (refine' sl_upd ?h1 ?n1; (case n1 => walk_at "ne"); (case h1 => walk_at "sl")))
open PySem PySem.Spec PyProof.Rows L2 S in
local macro_rules | `(tactic| walk_at "st") => `(tactic| first | assumption | (refine' st_upd ?h1 ?n1; (case n1 => walk_at "ne"); (case h1 => walk_at "st")))
open PySem PySem.Spec PyProof.Rows L2 S in
local macro_rules | `(tactic| walk_at "ar") => `(tactic| first | omega | decide | (exact ⟨by decide, by decide⟩) | (exact ⟨by decide, by decide, by decide⟩) | (simp only [CDiv, CPow, CMul]; omega) | (exact .inl (by omega)) | (exact .inr (by omega)) | (simp only [sizeLine_eq, List.length_map, List.length_cons, List.length_nil, List.length_append, List.length_reverse]; omega))
open PySem PySem.Spec PyProof.Rows L2 S in
local macro_rules | `(tactic| walk_at "rd") => `(tactic| first
  | (refine' Rd.l ?h1 ?h2; (case h1 => walk_at "hp"))
  | (refine' Rd.sl ?h1 ?h2; (case h1 => walk_at "sl"))
  | (refine' Rd.st ?h1 ?h2; (case h1 => walk_at "st"))
  | (refine' Rd.sa ?h1 ?h2; (case h1 => assumption))
  | (refine' S.At.of ?h1 ?h2; (case h1 => (first | rfl | assumption)))
  | (refine' Ls.of ?h1 ?h2; (case h1 => walk_at "hp"))
  | (refine' IsL.of ?h1 ?h2; (case h1 => walk_at "hp"))
  | (refine' Pl.of ?h1 ?h2; (case h1 => rfl))
  | (refine' Need.mk ?h1 ?h2; (case h1 => walk_at "ar")))
open PySem PySem.Spec PyProof.Rows L2 S in
local macro_rules | `(tactic| walk_at "go") => `(tactic| (repeat walk_at "rd"))
open PySem PySem.Spec PyProof.Rows L2 S in
local macro_rules | `(tactic| walk_at "gx") => `(tactic| (repeat (first | walk_at "rd" | refine' Stop.mk ?_)))
/-! ## the laws' own harness: draws -/
namespace S
open PySem PySem.Spec PyProof.Rows L2
theorem at_ints {ns : List Int} {i : Int} (h0 : 0 ≤ i) (h1 : i < ns.length) : ∃ x, atI (ns.map V.int) i = some (.int x) := by
  obtain ⟨j, rfl⟩ := Int.eq_ofNat_of_zero_le h0
  have hl : j < ns.length := by omega
  refine ⟨ns[j], atI_nat ?_⟩
  rw [List.getElem?_map, List.getElem?_eq_getElem hl]
  rfl
/-- the state of the draws: place, left, number, kind -/
def DrawSt (l : List V) : Prop := ∃ a b n k : Int, l = [.int a, .int b, .int n, .int k] ∧ 0 ≤ a ∧ 0 ≤ n ∧ (b = 0 ∨ k = 2 ∨ n < 10 ^ 18)
/-- the script at a: the calls leave it -/
def ScrAt (K : Frag) (H : Hp) (a st : Addr) (ns : List Int) : Prop := (a ≠ st ∧ SqL K H a (ns.map V.int)) ∨ ∀ H', SqL K H' a (ns.map V.int)
/-- the script at a, the state at st -/
structure Ctx (K : Frag) (H : Hp) (a st : Addr) : Prop where
  scr : ∃ ns : List Int, ScrAt K H a st ns
  stt : ∃ l, H st = some (.lst l) ∧ DrawSt l
theorem ScrAt.sl {K : Frag} {H : Hp} {a st : Addr} {ns : List Int} (h : ScrAt K H a st ns) : SqL K H a (ns.map V.int) := by
  rcases h with ⟨_, h⟩ | h
  · exact h
  · exact h H
theorem ScrAt.x {K : Frag} {H H' : Hp} {a st : Addr} {ns : List Int} (h : ScrAt K H a st ns) (e : SameX st H H') : ScrAt K H' a st ns := by
  rcases h with ⟨n, h⟩ | h
  · exact .inl ⟨n, e.seq h n⟩
  · exact .inr h
theorem ScrAt.same {K : Frag} {H H' : Hp} {a st : Addr} {ns : List Int} (h : ScrAt K H a st ns) (e : Same H H') : ScrAt K H' a st ns := h.x (Same.x e)
theorem Ctx.same {K : Frag} {H H' : Hp} {a st : Addr} (c : Ctx K H a st) (e : Same H H') : Ctx K H' a st := by
  obtain ⟨⟨ns, h⟩, l, hl, d⟩ := c
  exact ⟨⟨ns, h.same e⟩, l, e _ _ hl, d⟩
def sp__law_draw (K : Frag) : Sp := fun vs H Q _ => ∃ (a st : Addr) (base : Int), vs = [.ref a, .ref st, .int base] ∧ Ctx K H a st ∧ 0 < base ∧
  ∀ (r : Int) (H' : Hp), 0 ≤ r → r < base → Ctx K H' a st → SameX st H H' → Q (.int r) H'
/-- a list made behind H0 may change -/
theorem SameX.mut {st : Addr} {H0 H1 : Hp} {p : Addr} {o : HO} (e : SameX st H0 H1) (n : H0 p = none) : SameX st H0 (L2.upd H1 p o) := fun b u h k => by
  rw [upd_ne (ne_of_none h n)]
  exact e b u h k
theorem Same.mut {H0 H1 : Hp} {p : Addr} {o : HO} (e : Same H0 H1) (n : H0 p = none) : Same H0 (upd H1 p o) := fun b u h => by
  rw [upd_ne (ne_of_none h n)]
  exact e b u h
theorem Ctx.mut {K : Frag} {H0 H1 : Hp} {a st p : Addr} {o : HO} (c : Ctx K H1 a st) (e : Ctx K H0 a st) (n : H0 p = none) : Ctx K (L2.upd H1 p o) a st := by
  obtain ⟨⟨ns, h⟩, l, hl, d⟩ := c
  obtain ⟨⟨ns0, h0⟩, l0, hl0, d0⟩ := e
  have n1 : st ≠ p := ne_of_none hl0 n
  refine ⟨?_, l, by rw [upd_ne n1]; exact hl, d⟩
  rcases h with ⟨na, h⟩ | h
  · by_cases e : a = p
    · subst e
      rcases h0.sl with (h0 | ⟨_, h0⟩) | h0
      · rw [n] at h0; cases h0
      · rw [n] at h0; cases h0
      · exact ⟨ns0, .inr fun H' => .inr h0⟩
    · exact ⟨ns, .inl ⟨na, sl_upd h e⟩⟩
  · exact ⟨ns, .inr h⟩
/-- ends ascending within a size -/
def Ends (size : Int) (ns : List Int) : Prop := ns.Pairwise (· < ·) ∧ ∀ x ∈ ns, 0 ≤ x ∧ x < size
theorem Ends.snoc {size at_ : Int} {ns : List Int} (h : Ends size ns) (hb : ∀ x ∈ ns, x < at_) (h0 : 0 ≤ at_) (h1 : at_ < size) : Ends size (ns ++ [at_]) := by
  refine ⟨List.pairwise_append.mpr ⟨h.1, List.pairwise_singleton _ _, fun x hx y hy => ?_⟩, fun x hx => ?_⟩
  · rw [List.mem_singleton.mp hy]
    exact hb x hx
  · rcases List.mem_append.mp hx with hx | hx
    · exact h.2 x hx
    · rw [List.mem_singleton.mp hx]
      exact ⟨h0, h1⟩
end S
-- deps: D0
/-! ## data compared, isinstance -/
namespace S
open PySem PySem.Spec PyProof.Rows L2
theorem dp_ints {K : Frag} {H : Hp} : ∀ ns : List Int, DpAll K H (ns.map V.int) (ns.map PyData.int)
  | [] => .nil
  | n :: r => .cons (.int n) (dp_ints r)
theorem can_ints : ∀ ns : List Int, PyData.canLayAll0 (ns.map PyData.int) = true
  | [] => rfl
  | n :: r => by
    show (PyData.canLay0 (.int n) && PyData.canLayAll0 (r.map PyData.int)) = true
    rw [can_ints r]; rfl
theorem dep_ints : ∀ ns : List Int, PyData.depthAll (ns.map PyData.int) = 0
  | [] => rfl
  | n :: r => by
    show max (PyData.depth (.int n)) (PyData.depthAll (r.map PyData.int)) = 0
    rw [dep_ints r]; rfl
theorem shp_ints (ns : List Int) : SeqAt.shaped (.list (ns.map PyData.int)) = true := by
  unfold SeqAt.shaped
  have e1 : PyData.canLay0 (.list (ns.map PyData.int)) = true := can_ints ns
  have e2 : PyData.depth (.list (ns.map PyData.int)) = 1 := by show PyData.depthAll _ + 1 = 1; rw [dep_ints]
  rw [e1, e2]; rfl
theorem eqv_ints : ∀ xs ys : List Int, PyData.eqvAll (xs.map PyData.int) (ys.map PyData.int) = decide (xs = ys)
  | [], [] => rfl
  | [], _ :: _ => by simp [PyData.eqvAll]
  | _ :: _, [] => by simp [PyData.eqvAll]
  | x :: xs, y :: ys => by
    show (PyData.eqv (.int x) (.int y) && PyData.eqvAll (xs.map PyData.int) (ys.map PyData.int)) = _
    rw [eqv_ints xs ys]
    show ((x == y) && decide (xs = ys)) = _
    by_cases h : x = y <;> by_cases h2 : xs = ys <;> simp [h, h2]
theorem eqd_ll {K : Frag} {H : Hp} {a b : Addr} {xs ys : List Int} {k : Bool → Prop} (h : SqL K H a (xs.map V.int)) (h2 : SqL K H b (ys.map V.int)) (q : k (decide (xs = ys))) : EqD K H (.ref a) (.ref b) k :=
  ⟨_, _, .lst h (dp_ints xs), .lst h2 (dp_ints ys), shp_ints xs, shp_ints ys, by
    have e : PyData.eqv (.list (xs.map PyData.int)) (.list (ys.map PyData.int)) = decide (xs = ys) := eqv_ints xs ys
    rw [e]; exact q⟩
theorem isi_tup {K : Frag} {H : Hp} {p : Addr} {xs : List V} {k : Bool → Prop} (h : SqT K H p xs) (q : k true) : Isi K H (.ref p) (.type "tuple") k := by
  rcases h with (h | ⟨o, h⟩) | ⟨o, its, n, h1, h2, _⟩
  · exact Isi.of (.base (.tup h)) rfl q
  · exact Isi.of (.fTuple h) rfl q
  · exact Isi.of (.kTuple h1 h2) rfl q
theorem isi_lst {K : Frag} {H : Hp} {p : Addr} {xs : List V} {k : Bool → Prop} (h : H p = some (.lst xs)) (q : k true) : Isi K H (.ref p) (.type "list") k := Isi.of (.base (.lst h)) rfl q
theorem map_filter_ints {ns : List Int} (pr : V → Bool) (f : V → V) (p2 : Int → Bool) (f2 : Int → Int) (hp : ∀ i, pr (.int i) = p2 i) (hf : ∀ i, f (.int i) = .int (f2 i)) : ((ns.map V.int).filter pr).map f = ((ns.filter p2).map f2).map V.int := by
  induction ns with
  | nil => rfl
  | cons x r ih =>
    simp only [List.map_cons, List.filter_cons, hp]
    by_cases h : p2 x = true
    · simp only [h, if_true, List.map_cons, hf, ih]
    · rw [if_neg h, if_neg h]; exact ih
theorem Ends.drop {size : Int} {ns : List Int} (h : Ends size ns) (k : Nat) : Ends size (ns.drop k) := ⟨h.1.sublist (List.drop_sublist k ns), fun x hx => h.2 x (List.mem_of_mem_drop hx)⟩
theorem Ends.filter {size : Int} {ns : List Int} (h : Ends size ns) (p : Int → Bool) : Ends size (ns.filter p) := ⟨h.1.filter p, fun x hx => h.2 x ((List.mem_filter.mp hx).1)⟩
theorem Ends.up {size : Int} {ns : List Int} (h : Ends size ns) : Ends size ((ns.filter fun x => decide (x + 1 < size)).map fun x => x + 1) := by
  refine ⟨List.pairwise_map.mpr ((h.1.filter _).imp fun {a b} hab => by omega), fun x hx => ?_⟩
  obtain ⟨y, hy, rfl⟩ := List.mem_map.mp hx
  have h1 := (List.mem_filter.mp hy)
  have h2 := h.2 y h1.1
  have h3 : y + 1 < size := of_decide_eq_true h1.2
  omega
theorem cut_from {ns : List Int} {d : Int} (h : 0 ≤ d) : cutV (ns.map V.int) (some d) none = (ns.drop d.toNat).map V.int := by
  obtain ⟨k, rfl⟩ := Int.eq_ofNat_of_zero_le h
  unfold cutV
  rw [HT.sIx_nat, HT.sIx_none, List.length_map, Int.toNat_natCast, ← List.map_drop]
  by_cases hk : k ≤ ns.length
  · rw [Nat.min_eq_left hk, List.take_of_length_le]
    simp
  · rw [Nat.min_eq_right (by omega), List.drop_eq_nil_of_le (by omega : ns.length ≤ k)]
    simp
def sp_law (K : Frag) : Sp := fun vs H Q _ => ∃ (a : Addr) (ns : List Int), vs = [.ref a] ∧ SqL K H a (ns.map V.int) ∧ ∀ H', Q (.bl true) H'
theorem ctx0 {K : Frag} {H : Hp} {a st : Addr} {ns : List Int} (h : SqL K H a (ns.map V.int)) (hs : H st = none) (l : List V) (d : DrawSt l) : Ctx K (upd H st (.lst l)) a st := by
  refine ⟨⟨ns, ?_⟩, _, upd_same, d⟩
  rcases h with h | h
  · have ne : a ≠ st := by
      rintro rfl
      rcases h with h | ⟨_, h⟩
      · rw [hs] at h; cases h
      · rw [hs] at h; cases h
    exact .inl ⟨ne, sl_upd (.inl h) ne⟩
  · exact .inr fun H' => .inr h
theorem ctx_st {K : Frag} {H : Hp} {a st : Addr} (c : Ctx K H a st) : ∃ l, H st = some (.lst l) := let ⟨_, l, h, _⟩ := c; ⟨l, h⟩
theorem ctx_ne {K : Frag} {H : Hp} {a st p : Addr} (c : Ctx K H a st) (n : H p = none) : p ≠ st := by
  obtain ⟨l, h⟩ := ctx_st c
  exact (ne_of_none h n).symm
theorem pw_lt {ns : List Int} (h : ns.Pairwise (· < ·)) {i j : Nat} {x y : Int} (hij : i < j) (hx : ns[i]? = some x) (hy : ns[j]? = some y) : x < y := by
  obtain ⟨h1, rfl⟩ := List.getElem?_eq_some_iff.mp hx
  obtain ⟨h2, rfl⟩ := List.getElem?_eq_some_iff.mp hy
  exact List.pairwise_iff_getElem.mp h i j h1 h2 hij
end S
-- deps: D0 D1
/-! ## a bitmap on the heap -/
namespace S
open PySem PySem.Spec PyProof.Rows L2
theorem Same.slt {H H' : Hp} {a C dx : Addr} {vs : List (Option V)} (e : Same H H') (h : SlX.Slt H a C dx vs) : SlX.Slt H' a C dx vs := by
  rcases h with ⟨h, z⟩ | ⟨h, z⟩
  · exact .inl ⟨e _ _ h, z⟩
  · exact .inr ⟨e _ _ h, e _ _ z⟩
theorem slO_lst {a C dx : Addr} {vs : List (Option V)} {xs : List V} : SlX.SlO a C dx vs ≠ .lst xs := fun z => by unfold SlX.SlO at z; cases z
theorem slO_tup {a C dx : Addr} {vs : List (Option V)} {xs : List V} : SlX.SlO a C dx vs ≠ .tup xs := fun z => by unfold SlX.SlO at z; cases z
theorem slO_frz {a C dx : Addr} {vs : List (Option V)} {o : Obj} {u : HO} : SlX.SlO a C dx vs ≠ .frz o u := fun z => by unfold SlX.SlO at z; cases z
theorem SameX.slt {st : Addr} {H H' : Hp} {a C dx : Addr} {vs : List (Option V)} {l : List V} (e : SameX st H H') (hst : H st = some (.lst l)) (h : SlX.Slt H a C dx vs) : SlX.Slt H' a C dx vs := by
  rcases h with ⟨h, z⟩ | ⟨h, z⟩
  · exact .inl ⟨e _ _ h (ne_of h hst (fun y => by cases y)), z⟩
  · exact .inr ⟨e _ _ h (ne_of h hst slO_lst), e _ _ z (ne_of z hst (fun y => by cases y))⟩
/-- all but two objects stays -/
def SameO (x y : Addr) (H H' : Hp) : Prop := ∀ b o, H b = some o → b ≠ x → b ≠ y → H' b = some o
theorem Same.o {x y : Addr} {H H' : Hp} (e : Same H H') : SameO x y H H' := fun b o h _ _ => e b o h
theorem SameO.trans {x y : Addr} {H H1 H2 : Hp} (a : SameO x y H H1) (b : SameO x y H1 H2) : SameO x y H H2 := fun c o h n m => b c o (a c o h n m) n m
theorem SameO.slH {x y C : Addr} {H : Hp} {vs : List (Option V)} : SameO x y H (SlX.slH H x C y vs) := fun b o h n m => by rw [SlX.slH_ne n m]; exact h
theorem SameO.tup {K : Frag} {x y a C : Addr} {H H' : Hp} {xs : List V} {vs : List (Option V)} (e : SameO x y H H') (hx : SlX.Slt H x C y vs) (hy : ∀ o, H y = some o → (∀ ys, o ≠ .tup ys) ∧ ∀ u w, o ≠ .frz u w) (h : SqT K H a xs) : SqT K H' a xs := by
  have nx : ∀ o, H a = some o → (o = .tup xs ∨ ∃ u, o = .frz u (.tup xs)) → a ≠ x ∧ a ≠ y := fun o ho q => by
    refine ⟨fun z => ?_, fun z => ?_⟩
    · subst z
      rcases hx with ⟨h1, _⟩ | ⟨h1, _⟩
      · rw [ho] at h1
        rcases q with q | ⟨u, q⟩ <;> · rw [q] at h1; cases h1
      · rw [ho] at h1
        have h2 := Option.some.inj h1
        rcases q with q | ⟨u, q⟩
        · exact slO_tup (h2.symm.trans q)
        · exact slO_frz (h2.symm.trans q)
    · subst z
      rcases q with q | ⟨u, q⟩
      · exact (hy _ ho).1 _ q
      · exact (hy _ ho).2 _ _ q
  rcases h with (h | ⟨o, h⟩) | h
  · obtain ⟨n, m⟩ := nx _ h (.inl rfl)
    exact .inl (.inl (e _ _ h n m))
  · obtain ⟨n, m⟩ := nx _ h (.inr ⟨_, rfl⟩)
    exact .inl (.inr ⟨o, e _ _ h n m⟩)
  · exact .inr h
abbrev BmF (K : Frag) : Prop := CF K "Bitmap" ["ends", "size"]
/-- a bitmap: its size, its ends -/
def Bm (K : Frag) (H : Hp) (a : Addr) (n : Int) (es : List Int) : Prop := BmF K ∧ 0 ≤ n ∧ Ends n es ∧ ∃ dx p, SlX.Slt H a (He.ga K "Bitmap") dx [some (.ref p), some (.int n)] ∧ SqT K H p (es.map V.int)
theorem Bm.same {K : Frag} {H H' : Hp} {a : Addr} {n : Int} {es : List Int} (h : Bm K H a n es) (e : Same H H') : Bm K H' a n es := by
  obtain ⟨c, h0, hE, dx, p, h1, h2⟩ := h
  exact ⟨c, h0, hE, dx, p, Same.slt e h1, Same.tup e h2⟩
theorem Bm.x {K : Frag} {st : Addr} {H H' : Hp} {a : Addr} {n : Int} {es : List Int} {l : List V} (h : Bm K H a n es) (e : SameX st H H') (hst : H st = some (.lst l)) : Bm K H' a n es := by
  obtain ⟨c, h0, hE, dx, p, h1, h2⟩ := h
  exact ⟨c, h0, hE, dx, p, e.slt hst h1, e.tup h2 hst⟩
end S
namespace S
open PySem PySem.Spec PyProof.Rows L2
def t__law_in_b1 (K : Frag) (E : XK) : TS :=
    dIfS (dCmpT oLe (dVar 3) (dVar 1)) (tAsg (dNotV (dVar 2)) (gName 2)) (tNext)
def t__law_in_2 (K : Frag) (E : XK) : TS :=
    tRet (dVar 2)
def t__law_in_1 (K : Frag) (E : XK) : TS :=
    tSeq (dFor (iSeq K (dVar 0)) (gName 3) (t__law_in_b1 K E))
    (stop (t__law_in_2 K E))
def t__law_in (K : Frag) (E : XK) : TS :=
    tSeq (tAsg (tC (.bl false)) (gName 2))
    (stop (t__law_in_1 K E))
end S
-- fn: _law_in
-- law: k03
-- deps: D0
namespace S
open PySem PySem.Spec PyProof.Rows L2
/-- an odd number of the ends is at most the row -/
def inB (ends : List Int) (row : Int) : Bool := ends.foldl (fun b e => if e ≤ row then !b else b) false
def sp__law_in (K : Frag) : Sp := fun vs H Q _ => ∃ (p : Addr) (ns : List Int) (row : Int), vs = [.ref p, .int row] ∧ SqA K H p (ns.map V.int) ∧ Q (.bl (inB ns row)) H
theorem foldl_take {α β : Type} (f : β → α → β) (b : β) {xs : List α} {i : Nat} {x : α} (h : xs[i]? = some x) : (xs.take (i + 1)).foldl f b = f ((xs.take i).foldl f b) x := by
  obtain ⟨hi, e⟩ := List.getElem?_eq_some_iff.mp h
  rw [List.take_succ, List.foldl_append, h]
  rfl
theorem map_get {α : Type} {g : α → V} {ns : List α} {i : Nat} {x : V} (h : (ns.map g)[i]? = some x) : ∃ y, ns[i]? = some y ∧ x = g y := by
  rw [List.getElem?_map] at h
  cases e : ns[i]? with
  | none => rw [e] at h; cases h
  | some y => rw [e] at h; exact ⟨y, rfl, (Option.some.inj h).symm⟩
theorem pure__law_in {K : Frag} (vs : List V) (H : Hp) (Q : VK) (E : XK) (h : sp__law_in K vs H Q E) : t__law_in K E { nx := fun _ H' => Q .non H', rt := Q } (start ["_law_ends_here", "_law_row", "_law_inside", "_law_end"] vs) H := by
  obtain ⟨p, ns, row, rfl, hp, q⟩ := h
  walk_at "gx"
  refine for_seq (fun i σ H1 => H1 = H ∧ ∃ (k : Option V), σ = [some (.ref p), some (.int row), some (.bl (inB (ns.take i) row)), k]) hp ⟨rfl, none, rfl⟩ (fun i σ H1 _ z => by rw [z.1]; exact Same.stay (Same.refl _)) ?_ ?_
  · rintro i x σ H1 hx ⟨rfl, k, rfl⟩
    obtain ⟨e, he, rfl⟩ := map_get hx
    have st : inB (ns.take (i + 1)) row = if e ≤ row then !(inB (ns.take i) row) else inB (ns.take i) row := foldl_take _ _ he
    walk_at "gx"
    refine ifd (fun hl => ?_) (fun hl => ?_)
    · walk_at "gx"
      rw [if_pos hl] at st
      exact ⟨rfl, _, by rw [st]; rfl⟩
    · rw [if_neg hl] at st
      exact ⟨rfl, _, by rw [st]; rfl⟩
  · rintro σ H1 ⟨rfl, k, rfl⟩
    rw [List.length_map, List.take_length]
    exact ⟨q⟩
theorem inB_cons (x : Int) (l : List Int) (row : Int) : inB (x :: l) row = if x ≤ row then !(inB l row) else inB l row := by
  have key : ∀ (l : List Int) (b : Bool), l.foldl (fun b e => if e ≤ row then !b else b) (!b) = !(l.foldl (fun b e => if e ≤ row then !b else b) b) := by
    intro l
    induction l with
    | nil => intro b; rfl
    | cons y l ih =>
      intro b
      simp only [List.foldl_cons]
      by_cases h : y ≤ row
      · rw [if_pos h, if_pos h, ih]
      · rw [if_neg h, if_neg h, ih]
  unfold inB
  simp only [List.foldl_cons]
  by_cases h : x ≤ row
  · rw [if_pos h, if_pos h, key]
  · rw [if_neg h, if_neg h]
end S
namespace S
open PySem PySem.Spec PyProof.Rows L2
def t_Bitmapdd_initdd_b1_1 (K : Frag) (E : XK) : TS :=
    tAsg (dVar 4) (gName 3)
def t_Bitmapdd_initdd_b1 (K : Frag) (E : XK) : TS :=
    tSeq (dIfS (dNot (dChainT oLt oLt (dVar 3) (dVar 4) (dVar 1))) (dGivS (ExF K "BadBitmap" ["SliceError"]) (dRaise K "BadBitmap" (WD E))) (tNext))
    (stop (t_Bitmapdd_initdd_b1_1 K E))
def t_Bitmapdd_initdd_4 (K : Frag) (E : XK) : TS :=
    dSto K "ends" (tCB (cTuple K) (tCons (dVar 2) (tNil))) (dVar 0)
def t_Bitmapdd_initdd_3 (K : Frag) (E : XK) : TS :=
    tSeq (dSto K "size" (dVar 1) (dVar 0))
    (stop (t_Bitmapdd_initdd_4 K E))
def t_Bitmapdd_initdd_2 (K : Frag) (E : XK) : TS :=
    tSeq (dIfS (dCmpT oLt (dVar 1) (tC (.int 0))) (dGivS (ExF K "BadBitmap" ["SliceError"]) (dRaise K "BadBitmap" (WD E))) (tNext))
    (stop (t_Bitmapdd_initdd_3 K E))
def t_Bitmapdd_initdd_1 (K : Frag) (E : XK) : TS :=
    tSeq (dFor (iSeq K (dVar 2)) (gName 4) (t_Bitmapdd_initdd_b1 K E))
    (stop (t_Bitmapdd_initdd_2 K E))
def t_Bitmapdd_initdd (K : Frag) (E : XK) : TS :=
    tSeq (tAsg (tUn uNeg (tC (.int 1))) (gName 3))
    (stop (t_Bitmapdd_initdd_1 K E))
end S
-- fn: Bitmap.__init__
-- law: k01
-- deps: Bm _law_in
namespace S
open PySem PySem.Spec PyProof.Rows L2
abbrev XF (K : Frag) (x : Str) : Prop := ExF K x ["SliceError"]
def sp_Bitmapdd_initdd (K : Frag) : Sp := fun vs H Q E => ∃ (x dx p : Addr) (n : Int) (es : List Int), vs = [.ref x, .int n, .ref p] ∧ BmF K ∧ H x = some (.ins (He.ga K "Bitmap") dx []) ∧ H dx = some (.own x) ∧ dx ≠ x ∧ SqA K H p (es.map V.int) ∧
  (0 ≤ n → Ends n es → ∀ H', SameO x dx H H' → Bm K H' x n es → Q .non H') ∧
  (¬ (0 ≤ n ∧ Ends n es) → XF K "BadBitmap" → E (.ref (He.ga K "BadBitmap")) none H)
/-- the ends ahead of i ascend within the size, the last one is last -/
def goodTo (n : Int) (es : List Int) (i : Nat) (last : Int) : Prop := Ends n (es.take i) ∧ (∀ x ∈ es.take i, x ≤ last) ∧ ((i = 0 ∧ last = -1) ∨ last ∈ es.take i)
theorem goodTo_snoc {n : Int} {es : List Int} {i : Nat} {last x : Int} (h : goodTo n es i last) (hx : es[i]? = some x) (h1 : last < x) (h2 : x < n) : goodTo n es (i + 1) x := by
  have e : es.take (i + 1) = es.take i ++ [x] := by rw [List.take_succ, hx]; rfl
  obtain ⟨hE, hl, hm⟩ := h
  have h0 : 0 ≤ x := by
    rcases hm with ⟨_, e⟩ | hm
    · omega
    · have := (hE.2 last hm).1; omega
  refine ⟨?_, fun y hy => ?_, .inr ?_⟩
  · rw [e]
    exact hE.snoc (fun y hy => by have := hl y hy; omega) h0 h2
  · rw [e] at hy
    rcases List.mem_append.mp hy with hy | hy
    · have := hl y hy; omega
    · rw [List.mem_singleton.mp hy]; exact Int.le_refl _
  · rw [e]; exact List.mem_append.mpr (.inr (List.mem_singleton.mpr rfl))
theorem goodTo_bad {n : Int} {es : List Int} {i : Nat} {last x : Int} (h : goodTo n es i last) (hx : es[i]? = some x) (hb : ¬ (last < x ∧ x < n)) : ¬ Ends n es := fun hE => by
  obtain ⟨_, hl, hm⟩ := h
  have hr := hE.2 x (List.mem_of_getElem? hx)
  refine hb ⟨?_, hr.2⟩
  rcases hm with ⟨_, e⟩ | hm
  · omega
  · obtain ⟨j, hj⟩ := List.mem_iff_getElem?.mp hm
    have hj2 : j < i := by
      obtain ⟨hlt, _⟩ := List.getElem?_eq_some_iff.mp hj
      rw [List.length_take] at hlt
      omega
    rw [List.getElem?_take_of_lt hj2] at hj
    exact pw_lt hE.1 hj2 hj hx
theorem pure_Bitmapdd_initdd {K : Frag} (vs : List V) (H : Hp) (Q : VK) (E : XK) (h : sp_Bitmapdd_initdd K vs H Q E) : t_Bitmapdd_initdd K E { nx := fun _ H' => Q .non H', rt := Q } (start ["self", "size", "ends", "last", "end"] vs) H := by
  obtain ⟨x, dx, p, n, es, rfl, hc, hx, hdx, hne, hp, good, bad⟩ := h
  walk_at "gx"
  refine for_seq (fun i σ H1 => H1 = H ∧ ∃ (last : Int) (k : Option V), σ = [some (.ref x), some (.int n), some (.ref p), some (.int last), k] ∧ goodTo n es i last) hp ⟨rfl, -1, none, rfl, ⟨.nil, fun _ z => nomatch z⟩, fun _ z => (nomatch z), .inl ⟨rfl, rfl⟩⟩
    (fun i σ H1 _ z => by rw [z.1]; exact Same.stay (Same.refl _)) ?_ ?_
  · rintro i v σ H1 hi ⟨rfl, last, k, rfl, hg⟩
    obtain ⟨y, hy, rfl⟩ := map_get hi
    walk_at "gx"
    refine ifd (fun h1 => ?_) (fun h1 => ?_)
    · walk_at "gx"
      refine ifn (fun h2 => ?_) (fun h2 => ?_)
      · exact fun xf => bad (fun z => goodTo_bad hg hy (fun z => h2 z.2) z.2) xf
      · exact ⟨rfl, _, _, rfl, goodTo_snoc hg hy h1 h2⟩
    · exact fun xf => bad (fun z => goodTo_bad hg hy (fun z => h1 z.1) z.2) xf
  · rintro σ H1 ⟨rfl, last, k, rfl, hg⟩
    rw [List.length_map] at hg
    have hE : Ends n es := by
      have := hg.1
      rwa [List.take_length] at this
    walk_at "gx"
    refine ifd (fun h1 => ?_) (fun h1 => ?_)
    · exact fun xf => bad (fun z => by omega) xf
    walk_at "gx"
    have s0 : SlX.Slt H1 x (He.ga K "Bitmap") dx [] := .inl ⟨hx, rfl⟩
    refine Sto.sl hc s0 (i := 1) rfl ?_
    have hy0 : ∀ o, H1 dx = some o → (∀ ys, o ≠ .tup ys) ∧ ∀ u w, o ≠ .frz u w := fun o ho => by
      rw [hdx] at ho
      cases ho
      exact ⟨fun _ z => (nomatch z), fun _ _ z => (nomatch z)⟩
    have e1 : SameO x dx H1 (SlX.slH H1 x (He.ga K "Bitmap") dx (SlX.putS 1 (.int n) [])) := SameO.slH
    have hp1 : SqA K (SlX.slH H1 x (He.ga K "Bitmap") dx (SlX.putS 1 (.int n) [])) p (es.map V.int) := by
      rcases hp with hp | hp
      · refine .inl ?_
        rcases hp with (hp | ⟨o, hp⟩) | hp
        · exact .inl (.inl (e1 _ _ hp (ne_of hp hx (fun z => by cases z)) (ne_of hp hdx (fun z => by cases z))))
        · exact .inl (.inr ⟨o, e1 _ _ hp (ne_of hp hx (fun z => by cases z)) (ne_of hp hdx (fun z => by cases z))⟩)
        · exact .inr hp
      · exact .inr (e1.tup s0 hy0 hp)
    walk_at "gx"
    refine ⟨fun t H2 e2 ht => ?_⟩
    walk_at "gx"
    have s1 : SlX.Slt H2 x (He.ga K "Bitmap") dx [none, some (.int n)] := Same.slt e2 (SlX.slH_slt hne)
    refine Sto.sl hc s1 (i := 0) rfl ?_
    have hd2 : H2 dx = some (.xd []) := e2 _ _ (by unfold SlX.slH; rw [upd_ne hne, upd_same])
    have hy2 : ∀ o, H2 dx = some o → (∀ ys, o ≠ .tup ys) ∧ ∀ u w, o ≠ .frz u w := fun o ho => by
      rw [hd2] at ho
      cases ho
      exact ⟨fun _ z => (nomatch z), fun _ _ z => (nomatch z)⟩
    refine good (by omega) hE _ ((e1.trans (Same.o e2)).trans SameO.slH) ⟨hc, by omega, hE, dx, t, SlX.slH_slt hne, SameO.slH.tup s1 hy2 ht⟩
/-- a bitmap is made -/
theorem mk_bitmap {K : Frag} {H : Hp} {n : Int} {es : List Int} {p : Addr} {R : Addr → Hp → Prop} {E : XK} (c : BmF K) (hp : SqA K H p (es.map V.int)) (good : 0 ≤ n → Ends n es → ∀ x H', Same H H' → H x = none → Bm K H' x n es → R x H')
    (bad : ¬ (0 ≤ n ∧ Ends n es) → XF K "BadBitmap" → ∀ H', Same H H' → E (.ref (He.ga K "BadBitmap")) none H') :
    NewI K H "Bitmap" fun x H2 => sp_Bitmapdd_initdd K [.ref x, .int n, .ref p] H2 (fun v H3 => v = .non ∧ R x H3) E := by
  refine ⟨fun x dx h1 h2 hne => ?_⟩
  have e : Same H (upd (upd H dx (.own x)) x (.ins (He.ga K "Bitmap") dx [])) := fun b o h => by
    rw [upd_ne (ne_of_none h h1), upd_ne (ne_of_none h h2)]; exact h
  refine ⟨x, dx, p, n, es, rfl, c, upd_same, by rw [upd_ne hne, upd_same], hne, Same.sqa e hp, fun h0 hE H' eo hb => ⟨rfl, good h0 hE x H' ?_ h1 hb⟩, fun hb xf => bad hb xf _ e⟩
  exact fun b o h => eo b o (e b o h) (ne_of_none h h1) (ne_of_none h h2)
end S
namespace S
open PySem PySem.Spec PyProof.Rows L2
def t_next_end_1 (K : Frag) (E : XK) : TS :=
    tRet (tOp (oIx K) (dVar 2) (dVar 3))
def t_next_end (K : Frag) (E : XK) : TS :=
    tSeq (dIfS (dOr (dCmpT (oEq K) (dVar 3) (tCB (cLen K) (tCons (dVar 2) (tNil)))) (dAnd (dCmpT oLt (dVar 1) (tCB (cLen K) (tCons (dVar 0) (tNil)))) (dCmpT oLt (tOp (oIx K) (dVar 0) (dVar 1)) (tOp (oIx K) (dVar 2) (dVar 3))))) (tRet (tOp (oIx K) (dVar 0) (dVar 1))) (tNext))
    (stop (t_next_end_1 K E))
end S
-- fn: next_end
-- law: k02
-- deps: D0
namespace S
open PySem PySem.Spec PyProof.Rows L2
def nextEnd : List Int → List Int → Int
  | x :: _, [] => x
  | x :: _, y :: _ => if x < y then x else y
  | [], y :: _ => y
  | [], [] => 0
def sp_next_end (K : Frag) : Sp := fun vs H Q _ => ∃ (p q : Addr) (one other : List Int) (i j : Nat), vs = [.ref p, .int (i : Int), .ref q, .int (j : Int)] ∧ SqA K H p (one.map V.int) ∧ SqA K H q (other.map V.int) ∧
  i ≤ one.length ∧ j ≤ other.length ∧ (i < one.length ∨ j < other.length) ∧ Q (.int (nextEnd (one.drop i) (other.drop j))) H
theorem at_map {ns : List Int} {i : Nat} (h : i < ns.length) : atI (ns.map V.int) (i : Int) = some (.int ns[i]) := atI_nat (by rw [List.getElem?_map, List.getElem?_eq_getElem h]; rfl)
theorem pure_next_end {K : Frag} (vs : List V) (H : Hp) (Q : VK) (E : XK) (h : sp_next_end K vs H Q E) : t_next_end K E { nx := fun _ H' => Q .non H', rt := Q } (start ["one", "i", "other", "j"] vs) H := by
  obtain ⟨p, q, one, other, i, j, rfl, hp, hq, hi, hj, hor, k⟩ := h
  walk_at "gx"
  rw [List.length_map]
  refine ifd (fun hjl => ?_) (fun hjl => ?_)
  · have hil : i < one.length := by omega
    have e : other.drop j = [] := List.drop_eq_nil_of_le (by omega)
    have e2 := List.drop_eq_getElem_cons hil
    rw [e, e2] at k
    have hx := at_map hil
    walk_at "gx"
    exact k
  · have hjl2 : j < other.length := by omega
    have e := List.drop_eq_getElem_cons hjl2
    have hy := at_map hjl2
    walk_at "gx"
    rw [List.length_map]
    refine ifd (fun hil => ?_) (fun hil => ?_)
    · have hil2 : i < one.length := by omega
      have hx := at_map hil2
      have e2 := List.drop_eq_getElem_cons hil2
      rw [e, e2] at k
      walk_at "gx"
      refine ifd (fun hlt => ?_) (fun hlt => ?_)
      · walk_at "gx"
        have k2 : Q (.int (if one[i] < other[j] then one[i] else other[j])) H := k
        rw [if_pos hlt] at k2; exact k2
      · walk_at "gx"
        have k2 : Q (.int (if one[i] < other[j] then one[i] else other[j])) H := k
        rw [if_neg hlt] at k2; exact k2
    · have e2 : one.drop i = [] := List.drop_eq_nil_of_le (by omega)
      rw [e, e2] at k
      walk_at "gx"
      exact k
end S
namespace S
open PySem PySem.Spec PyProof.Rows L2
def t_swept_b1_3 (K : Frag) (E : XK) : TS :=
    dIfS (dCmpT (oNe K) (tOp (oIx K) (dVar 2) (tOp (oAdd K) (tOp oMulA (tC (.int 2)) (dVar 6)) (dVar 7))) (dVar 8)) (tSeq (tAsg (tOp oSub (tC (.int 1)) (dVar 8)) (gName 8))
    (tDrop (dML K mApp (dVar 3) (tCons (dVar 9) (tNil))))) (tNext)
def t_swept_b1_2 (K : Frag) (E : XK) : TS :=
    tSeq (dIfS (dAnd (dCmpT oLt (dVar 5) (tCB (cLen K) (tCons (dVar 1) (tNil)))) (dCmpT (oEq K) (tOp (oIx K) (dVar 1) (dVar 5)) (dVar 9))) (tSeq (tAsg (tOp oSub (tC (.int 1)) (dVar 7)) (gName 7))
    (tAsg (tOp (oAdd K) (dVar 5) (tC (.int 1))) (gName 5))) (tNext))
    (stop (t_swept_b1_3 K E))
def t_swept_b1_1 (K : Frag) (E : XK) : TS :=
    tSeq (dIfS (dAnd (dCmpT oLt (dVar 4) (tCB (cLen K) (tCons (dVar 0) (tNil)))) (dCmpT (oEq K) (tOp (oIx K) (dVar 0) (dVar 4)) (dVar 9))) (tSeq (tAsg (tOp oSub (tC (.int 1)) (dVar 6)) (gName 6))
    (tAsg (tOp (oAdd K) (dVar 4) (tC (.int 1))) (gName 4))) (tNext))
    (stop (t_swept_b1_2 K E))
def t_swept_b1 (K : Frag) (E : XK) : TS :=
    tSeq (tAsg (dCall (sp_next_end K) (EW E) (tCons (dVar 0) (tCons (dVar 4) (tCons (dVar 1) (tCons (dVar 5) (tNil)))))) (gName 9))
    (stop (t_swept_b1_1 K E))
def t_swept_4 (K : Frag) (E : XK) : TS :=
    tRet (tCB (cTuple K) (tCons (dVar 3) (tNil)))
def t_swept_3 (K : Frag) (E : XK) : TS :=
    tSeq (dWhile (dOr (dCmpT oLt (dVar 4) (tCB (cLen K) (tCons (dVar 0) (tNil)))) (dCmpT oLt (dVar 5) (tCB (cLen K) (tCons (dVar 1) (tNil))))) (t_swept_b1 K E))
    (stop (t_swept_4 K E))
def t_swept_2 (K : Frag) (E : XK) : TS :=
    tSeq (tAsg3 (tC (.int 0)) (gName 6) (gName 7) (gName 8))
    (stop (t_swept_3 K E))
def t_swept_1 (K : Frag) (E : XK) : TS :=
    tSeq (tAsg2 (tC (.int 0)) (gName 4) (gName 5))
    (stop (t_swept_2 K E))
def t_swept (K : Frag) (E : XK) : TS :=
    tSeq (tAsg (dLst (tNil)) (gName 3))
    (stop (t_swept_1 K E))
end S
-- fn: swept
-- law: k02
-- deps: D0 next_end _law_in
namespace S
open PySem PySem.Spec PyProof.Rows L2
/-- one step of the sweep: at, the bits behind, the bit so far; the ends and the bit -/
def sweepAt (r : Bool → Bool → Bool) (at_ : Int) (f s b : Bool) (rest : List Int) : List Int := if r f s = b then rest else at_ :: rest
def sweep (r : Bool → Bool → Bool) : List Int → List Int → Bool → Bool → List Int
  | [], [], _, _ => []
  | x :: xs, [], f, s => sweepAt r x (!f) s (r f s) (sweep r xs [] (!f) s)
  | [], y :: ys, f, s => sweepAt r y f (!s) (r f s) (sweep r [] ys f (!s))
  | x :: xs, y :: ys, f, s =>
    if x < y then sweepAt r x (!f) s (r f s) (sweep r xs (y :: ys) (!f) s)
    else if x = y then sweepAt r x (!f) (!s) (r f s) (sweep r xs ys (!f) (!s))
    else sweepAt r y f (!s) (r f s) (sweep r (x :: xs) ys f (!s))
  termination_by xs ys => xs.length + ys.length
def ruleV (r : Bool → Bool → Bool) : List V := [.int (b2i (r false false)), .int (b2i (r false true)), .int (b2i (r true false)), .int (b2i (r true true))]
theorem rule_at (r : Bool → Bool → Bool) (f s : Bool) : atI (ruleV r) (2 * b2i f + b2i s) = some (.int (b2i (r f s))) := by
  cases f <;> cases s
  · exact atI_nat (j := 0) rfl
  · exact atI_nat (j := 1) rfl
  · exact atI_nat (j := 2) rfl
  · exact atI_nat (j := 3) rfl
theorem b2i_not (b : Bool) : 1 - b2i b = b2i (!b) := by cases b <;> rfl
def sp_swept (K : Frag) : Sp := fun vs H Q _ => ∃ (p q t : Addr) (one other : List Int) (r : Bool → Bool → Bool), vs = [.ref p, .ref q, .ref t] ∧ SqA K H p (one.map V.int) ∧ SqA K H q (other.map V.int) ∧ SqT K H t (ruleV r) ∧ r false false = false ∧
  one.length ≤ 100000 ∧ other.length ≤ 100000 ∧ ∀ (u : Addr) (H' : Hp), Same H H' → SqT K H' u ((sweep r one other false false).map V.int) → Q (.ref u) H'
/-- between two turns -/
def inv_swept (K : Frag) (H : Hp) (p q t e : Addr) (one other : List Int) (r : Bool → Bool → Bool) (m : Nat) (σ : L2.St) (H1 : Hp) : Prop := ∃ (i j : Nat) (f s : Bool) (L : List Int) (w : Option V),
  σ = [some (.ref p), some (.ref q), some (.ref t), some (.ref e), some (.int (i : Int)), some (.int (j : Int)), some (.int (b2i f)), some (.int (b2i s)), some (.int (b2i (r f s))), w] ∧
  H1 e = some (.lst (L.map V.int)) ∧ Same H H1 ∧ i ≤ one.length ∧ j ≤ other.length ∧ m = (one.length - i) + (other.length - j) ∧ L.length ≤ i + j ∧ L ++ sweep r (one.drop i) (other.drop j) f s = sweep r one other false false
theorem pure_swept {K : Frag} (vs : List V) (H : Hp) (Q : VK) (E : XK) (h : sp_swept K vs H Q E) : t_swept K E { nx := fun _ H' => Q .non H', rt := Q } (start ["one", "other", "rule", "ends", "i", "j", "first", "second", "bit", "at"] vs) H := by
  obtain ⟨p, q, t, one, other, r, rfl, hp, hq, ht, h00, hl1, hl2, k⟩ := h
  walk_at "gx"
  refine ⟨fun e he => ?_⟩
  walk_at "gx"
  refine ⟨inv_swept K H p q t e one other r, ⟨_, 0, 0, false, false, [], none, by rw [h00]; rfl, upd_same, same_new he, Nat.zero_le _, Nat.zero_le _, rfl, Nat.zero_le _, rfl⟩, ?_⟩
  rintro m σ H1 ⟨i, j, f, s, L, w, rfl, hL, hs, hi, hj, rfl, hlen, htot⟩
  have hp1 := Same.sqa hs hp
  have hq1 := Same.sqa hs hq
  have ht1 := Same.tup hs ht
  -- the turn itself
  have turn : ∀ (D : L2.Ends), (i < one.length ∨ j < other.length) → (∀ σ' H', (∃ m', m' < (one.length - i) + (other.length - j) ∧ inv_swept K H p q t e one other r m' σ' H') → D.nx σ' H') →
      t_swept_b1 K E D [some (.ref p), some (.ref q), some (.ref t), some (.ref e), some (.int (i : Int)), some (.int (j : Int)), some (.int (b2i f)), some (.int (b2i s)), some (.int (b2i (r f s))), w] H1 := by
    intro D hor hD
    refine ⟨p, q, one, other, i, j, rfl, hp1, hq1, hi, hj, hor, ?_⟩
    -- behind the two ifs
    have tail : ∀ (i2 j2 : Nat) (f2 s2 : Bool) (at_ : Int), i ≤ i2 → j ≤ j2 → i2 ≤ one.length → j2 ≤ other.length → i + j < i2 + j2 → sweep r (one.drop i) (other.drop j) f s = sweepAt r at_ f2 s2 (r f s) (sweep r (one.drop i2) (other.drop j2) f2 s2) →
        t_swept_b1_3 K E D [some (.ref p), some (.ref q), some (.ref t), some (.ref e), some (.int (i2 : Int)), some (.int (j2 : Int)), some (.int (b2i f2)), some (.int (b2i s2)), some (.int (b2i (r f s))), some (.int at_)] H1 := by
      intro i2 j2 f2 s2 at_ h1 h2 h3 h4 h5 hsw
      have hr := rule_at r f2 s2
      walk_at "gx"
      unfold sweepAt at hsw
      refine ifn (fun hne => ?_) (fun heq => ?_)
      · have hne2 : r f2 s2 ≠ r f s := fun z => hne (by rw [z])
        rw [if_neg hne2] at hsw
        have hnot : r f2 s2 = !(r f s) := by revert hne2; cases r f2 s2 <;> cases r f s <;> simp
        walk_at "gx"
        refine hD _ _ ⟨_, ?_, i2, j2, f2, s2, L ++ [at_], some (.int at_), ?_, ?_, Same.mut hs he, h3, h4, rfl, ?_, ?_⟩
        · omega
        · rw [hnot, ← b2i_not]; rfl
        · rw [List.map_append]; exact upd_same
        · rw [List.length_append]; show L.length + 1 ≤ _; omega
        · rw [List.append_assoc, ← htot, hsw]; rfl
      · have heq2 : r f2 s2 = r f s := by revert heq; cases r f2 s2 <;> cases r f s <;> simp [b2i]
        rw [if_pos heq2] at hsw
        refine hD _ _ ⟨_, ?_, i2, j2, f2, s2, L, some (.int at_), ?_, hL, hs, h3, h4, rfl, by omega, ?_⟩
        · omega
        · rw [heq2]
        · rw [← htot, hsw]
    have e1 : ∀ h : i < one.length, one.drop i = one[i] :: one.drop (i + 1) := fun h => List.drop_eq_getElem_cons h
    have e2 : ∀ h : j < other.length, other.drop j = other[j] :: other.drop (j + 1) := fun h => List.drop_eq_getElem_cons h
    have n1 : ¬ i < one.length → one.drop i = [] := fun h => List.drop_eq_nil_of_le (by omega)
    have n2 : ¬ j < other.length → other.drop j = [] := fun h => List.drop_eq_nil_of_le (by omega)
    by_cases hil : i < one.length
    · have hx := at_map hil
      by_cases hjl : j < other.length
      · have hy := at_map hjl
        rw [e1 hil, e2 hjl]
        have hn : nextEnd (one[i] :: one.drop (i + 1)) (other[j] :: other.drop (j + 1)) = if one[i] < other[j] then one[i] else other[j] := rfl
        rw [hn]
        have hsw : sweep r (one.drop i) (other.drop j) f s = if one[i] < other[j] then sweepAt r one[i] (!f) s (r f s) (sweep r (one.drop (i + 1)) (other[j] :: other.drop (j + 1)) (!f) s)
            else if one[i] = other[j] then sweepAt r one[i] (!f) (!s) (r f s) (sweep r (one.drop (i + 1)) (other.drop (j + 1)) (!f) (!s))
            else sweepAt r other[j] f (!s) (r f s) (sweep r (one[i] :: one.drop (i + 1)) (other.drop (j + 1)) f (!s)) := by
          rw [e1 hil, e2 hjl, sweep]
        by_cases hlt : one[i] < other[j]
        · rw [if_pos hlt]
          rw [if_pos hlt, ← e2 hjl] at hsw
          walk_at "gx"
          rw [List.length_map]
          refine ift (by omega) ?_
          walk_at "gx"
          refine ift rfl ?_
          walk_at "gx"
          rw [List.length_map]
          refine ift (by omega) ?_
          walk_at "gx"
          refine iff' (by omega) ?_
          have z := tail (i + 1) j (!f) s one[i] (by omega) (by omega) (by omega) (by omega) (by omega) hsw
          rw [← b2i_not] at z
          exact Stop.mk z
        · rw [if_neg hlt]
          rw [if_neg hlt] at hsw
          by_cases heq : one[i] = other[j]
          · rw [if_pos heq] at hsw
            walk_at "gx"
            rw [List.length_map]
            refine ift (by omega) ?_
            walk_at "gx"
            refine ift heq ?_
            walk_at "gx"
            rw [List.length_map]
            refine ift (by omega) ?_
            walk_at "gx"
            refine ift rfl ?_
            walk_at "go"
            have z := tail (i + 1) (j + 1) (!f) (!s) other[j] (by omega) (by omega) (by omega) (by omega) (by omega) (by rw [hsw, heq])
            rw [← b2i_not, ← b2i_not] at z
            exact Stop.mk z
          · rw [if_neg heq] at hsw
            rw [← e1 hil] at hsw
            walk_at "gx"
            rw [List.length_map]
            refine ift (by omega) ?_
            walk_at "gx"
            refine iff' heq ?_
            walk_at "gx"
            rw [List.length_map]
            refine ift (by omega) ?_
            walk_at "gx"
            refine ift rfl ?_
            walk_at "go"
            have z := tail i (j + 1) f (!s) other[j] (by omega) (by omega) (by omega) (by omega) (by omega) hsw
            rw [← b2i_not] at z
            exact Stop.mk z
      · have hsw : sweep r (one.drop i) (other.drop j) f s = sweepAt r one[i] (!f) s (r f s) (sweep r (one.drop (i + 1)) (other.drop j) (!f) s) := by
          rw [e1 hil, n2 hjl, sweep]
        have hn : nextEnd (one.drop i) (other.drop j) = one[i] := by rw [e1 hil, n2 hjl]; rfl
        rw [hn]
        walk_at "gx"
        rw [List.length_map]
        refine ift (by omega) ?_
        walk_at "gx"
        refine ift rfl ?_
        walk_at "gx"
        rw [List.length_map]
        refine iff' (by omega) ?_
        have z := tail (i + 1) j (!f) s one[i] (by omega) (by omega) (by omega) (by omega) (by omega) hsw
        rw [← b2i_not] at z
        exact Stop.mk z
    · have hjl : j < other.length := by omega
      have hy := at_map hjl
      have hsw : sweep r (one.drop i) (other.drop j) f s = sweepAt r other[j] f (!s) (r f s) (sweep r (one.drop i) (other.drop (j + 1)) f (!s)) := by
        rw [e2 hjl, n1 hil, sweep]
      have hn : nextEnd (one.drop i) (other.drop j) = other[j] := by rw [e2 hjl, n1 hil]; rfl
      rw [hn]
      walk_at "gx"
      rw [List.length_map]
      refine iff' (by omega) ?_
      walk_at "gx"
      rw [List.length_map]
      refine ift (by omega) ?_
      walk_at "gx"
      refine ift rfl ?_
      walk_at "go"
      have z := tail i (j + 1) f (!s) other[j] (by omega) (by omega) (by omega) (by omega) (by omega) hsw
      rw [← b2i_not] at z
      exact Stop.mk z
  walk_at "gx"
  rw [List.length_map]
  refine ifd (fun hil => ?_) (fun hil => ?_)
  · exact turn _ (.inl (by omega)) fun _ _ z => z
  · walk_at "gx"
    rw [List.length_map]
    refine ifd (fun hjl => ?_) (fun hjl => ?_)
    · exact turn _ (.inr (by omega)) fun _ _ z => z
    · walk_at "gx"
      refine ⟨fun u H2 e2 hu => k u H2 (hs.trans e2) ?_⟩
      have e : L = sweep r one other false false := by
        rw [← htot, List.drop_eq_nil_of_le (by omega), List.drop_eq_nil_of_le (by omega), sweep, List.append_nil]
      rw [← e]; exact hu
/-! ### the law of the sweep -/
theorem inB_before {ns : List Int} {row : Int} (h : ∀ x ∈ ns, row < x) : inB ns row = false := by
  induction ns with
  | nil => rfl
  | cons x r ih =>
    rw [inB_cons, if_neg (by have := h x (List.mem_cons_self ..); omega)]
    exact ih fun y hy => h y (List.mem_cons_of_mem _ hy)
/-- what the sweep holds is behind lo and ascends; at each row its bit -/
theorem sweep_law (r : Bool → Bool → Bool) : ∀ (n : Nat) (xs ys : List Int) (f s : Bool) (lo : Int), xs.length + ys.length ≤ n → xs.Pairwise (· < ·) → ys.Pairwise (· < ·) → (∀ x ∈ xs, lo ≤ x) → (∀ y ∈ ys, lo ≤ y) →
    (sweep r xs ys f s).Pairwise (· < ·) ∧ (∀ z ∈ sweep r xs ys f s, lo ≤ z ∧ (z ∈ xs ∨ z ∈ ys)) ∧ ∀ row, ((r f s) ^^ inB (sweep r xs ys f s) row) = r (f ^^ inB xs row) (s ^^ inB ys row) := by
  intro n
  induction n with
  | zero =>
    intro xs ys f s lo hn _ _ _ _
    cases xs with
    | cons x xs => simp at hn
    | nil =>
      cases ys with
      | cons y ys => simp at hn
      | nil =>
        rw [sweep]
        exact ⟨.nil, fun _ z => (nomatch z), fun row => by simp [inB]⟩
  | succ n ih =>
    -- one step at at_, the smallest of both
    have step : ∀ (xs ys xs2 ys2 : List Int) (f s f2 s2 : Bool) (lo at_ : Int), lo ≤ at_ → xs2.length + ys2.length ≤ n → xs2.Pairwise (· < ·) → ys2.Pairwise (· < ·) → (∀ x ∈ xs2, at_ < x) → (∀ y ∈ ys2, at_ < y) →
        (∀ z, z ∈ xs2 → z ∈ xs) → (∀ z, z ∈ ys2 → z ∈ ys) → (at_ ∈ xs ∨ at_ ∈ ys) →
        (∀ row, at_ ≤ row → (f ^^ inB xs row) = (f2 ^^ inB xs2 row) ∧ (s ^^ inB ys row) = (s2 ^^ inB ys2 row)) → (∀ row, row < at_ → inB xs row = false ∧ inB ys row = false) →
        (sweepAt r at_ f2 s2 (r f s) (sweep r xs2 ys2 f2 s2)).Pairwise (· < ·) ∧ (∀ z ∈ sweepAt r at_ f2 s2 (r f s) (sweep r xs2 ys2 f2 s2), lo ≤ z ∧ (z ∈ xs ∨ z ∈ ys)) ∧
          ∀ row, ((r f s) ^^ inB (sweepAt r at_ f2 s2 (r f s) (sweep r xs2 ys2 f2 s2)) row) = r (f ^^ inB xs row) (s ^^ inB ys row) := by
      intro xs ys xs2 ys2 f s f2 s2 lo at_ hlo hn h1 h2 h3 h4 h5 h6 h7 h8 h9
      obtain ⟨i1, i2, i3⟩ := ih xs2 ys2 f2 s2 (at_ + 1) hn h1 h2 (fun x hx => h3 x hx) (fun y hy => h4 y hy)
      unfold sweepAt
      by_cases he : r f2 s2 = r f s
      · rw [if_pos he]
        refine ⟨i1, fun z hz => ⟨by have := (i2 z hz).1; omega, (i2 z hz).2.imp (h5 z) (h6 z)⟩, fun row => ?_⟩
        by_cases hrow : at_ ≤ row
        · rw [(h8 row hrow).1, (h8 row hrow).2, ← i3 row, he]
        · rw [(h9 row (by omega)).1, (h9 row (by omega)).2, inB_before fun x hx => by have := (i2 x hx).1; omega]
          simp
      · rw [if_neg he]
        refine ⟨List.pairwise_cons.mpr ⟨fun z hz => by have := (i2 z hz).1; omega, i1⟩, fun z hz => ?_, fun row => ?_⟩
        · rcases List.mem_cons.mp hz with rfl | hz
          · exact ⟨hlo, h7⟩
          · exact ⟨by have := (i2 z hz).1; omega, (i2 z hz).2.imp (h5 z) (h6 z)⟩
        · by_cases hrow : at_ ≤ row
          · rw [inB_cons, if_pos hrow, (h8 row hrow).1, (h8 row hrow).2, ← i3 row]
            revert he
            cases r f2 s2 <;> cases r f s <;> cases inB (sweep r xs2 ys2 f2 s2) row <;> simp
          · rw [(h9 row (by omega)).1, (h9 row (by omega)).2, inB_cons, if_neg hrow, inB_before fun x hx => by have := (i2 x hx).1; omega]
            simp
    intro xs ys f s lo hn hx hy lx ly
    cases xs with
    | nil =>
      cases ys with
      | nil =>
        rw [sweep]
        exact ⟨.nil, fun _ z => (nomatch z), fun row => by simp [inB]⟩
      | cons y ys =>
        rw [sweep]
        have hy2 := List.pairwise_cons.mp hy
        refine step [] (y :: ys) [] ys f s f (!s) lo y (ly y (List.mem_cons_self ..)) (by simp at hn ⊢; omega) .nil hy2.2 (fun _ z => nomatch z) hy2.1 (fun _ z => z) (fun z hz => List.mem_cons_of_mem _ hz) (.inr (List.mem_cons_self ..)) (fun row h => ⟨rfl, ?_⟩) fun row h => ⟨rfl, inB_before fun z hz => ?_⟩
        · rw [inB_cons, if_pos h]; cases s <;> cases inB ys row <;> rfl
        · rcases List.mem_cons.mp hz with rfl | hz
          · exact h
          · have := hy2.1 z hz; omega
    | cons x xs =>
      have hx2 := List.pairwise_cons.mp hx
      cases ys with
      | nil =>
        rw [sweep]
        refine step (x :: xs) [] xs [] f s (!f) s lo x (lx x (List.mem_cons_self ..)) (by simp at hn ⊢; omega) hx2.2 .nil hx2.1 (fun _ z => nomatch z) (fun z hz => List.mem_cons_of_mem _ hz) (fun _ z => z) (.inl (List.mem_cons_self ..)) (fun row h => ⟨?_, rfl⟩) fun row h => ⟨inB_before fun z hz => ?_, rfl⟩
        · rw [inB_cons, if_pos h]; cases f <;> cases inB xs row <;> rfl
        · rcases List.mem_cons.mp hz with rfl | hz
          · exact h
          · have := hx2.1 z hz; omega
      | cons y ys =>
        have hy2 := List.pairwise_cons.mp hy
        have before : ∀ {l : List Int} {a b row : Int}, (∀ z ∈ l, a < z) → row < a → inB (a :: l) row = false := fun hl hr => inB_before fun z hz => by
          rcases List.mem_cons.mp hz with rfl | hz
          · exact hr
          · have := hl z hz; omega
        rw [sweep]
        by_cases hlt : x < y
        · rw [if_pos hlt]
          refine step (x :: xs) (y :: ys) xs (y :: ys) f s (!f) s lo x (lx x (List.mem_cons_self ..)) (by simp at hn ⊢; omega) hx2.2 hy hx2.1 (fun z hz => ?_) (fun z hz => List.mem_cons_of_mem _ hz) (fun _ z => z) (.inl (List.mem_cons_self ..)) (fun row h => ⟨?_, rfl⟩) fun row h => ⟨before (b := 0) hx2.1 h, before (b := 0) hy2.1 (by omega)⟩
          · rcases List.mem_cons.mp hz with rfl | hz
            · exact hlt
            · have := hy2.1 z hz; omega
          · rw [inB_cons, if_pos h]; cases f <;> cases inB xs row <;> rfl
        · rw [if_neg hlt]
          by_cases heq : x = y
          · rw [if_pos heq]
            subst heq
            refine step (x :: xs) (x :: ys) xs ys f s (!f) (!s) lo x (lx x (List.mem_cons_self ..)) (by simp at hn ⊢; omega) hx2.2 hy2.2 hx2.1 hy2.1 (fun z hz => List.mem_cons_of_mem _ hz) (fun z hz => List.mem_cons_of_mem _ hz) (.inl (List.mem_cons_self ..)) (fun row h => ⟨?_, ?_⟩) fun row h => ⟨before (b := 0) hx2.1 h, before (b := 0) hy2.1 h⟩
            · rw [inB_cons, if_pos h]; cases f <;> cases inB xs row <;> rfl
            · rw [inB_cons, if_pos h]; cases s <;> cases inB ys row <;> rfl
          · rw [if_neg heq]
            refine step (x :: xs) (y :: ys) (x :: xs) ys f s f (!s) lo y (ly y (List.mem_cons_self ..)) (by simp at hn ⊢; omega) hx hy2.2 (fun z hz => ?_) hy2.1 (fun _ z => z) (fun z hz => List.mem_cons_of_mem _ hz) (.inr (List.mem_cons_self ..)) (fun row h => ⟨rfl, ?_⟩) fun row h => ⟨before (b := 0) hx2.1 (by omega), before (b := 0) hy2.1 h⟩
            · rcases List.mem_cons.mp hz with rfl | hz
              · omega
              · have := hx2.1 z hz; omega
            · rw [inB_cons, if_pos h]; cases s <;> cases inB ys row <;> rfl
theorem sweepAt_len (r : Bool → Bool → Bool) (at_ : Int) (f s b : Bool) (l : List Int) : (sweepAt r at_ f s b l).length ≤ l.length + 1 := by
  unfold sweepAt
  split
  · omega
  · simp
theorem sweep_len (r : Bool → Bool → Bool) : ∀ (n : Nat) (xs ys : List Int) (f s : Bool), xs.length + ys.length ≤ n → (sweep r xs ys f s).length ≤ xs.length + ys.length := by
  intro n
  induction n with
  | zero =>
    intro xs ys f s hn
    cases xs with
    | cons x xs => simp at hn
    | nil =>
      cases ys with
      | cons y ys => simp at hn
      | nil => rw [sweep]; simp
  | succ n ih =>
    intro xs ys f s hn
    cases xs with
    | nil =>
      cases ys with
      | nil => rw [sweep]; simp
      | cons y ys =>
        rw [sweep]
        have := ih [] ys f (!s) (by simp at hn ⊢; omega)
        exact Nat.le_trans (sweepAt_len ..) (by simp at this ⊢; omega)
    | cons x xs =>
      cases ys with
      | nil =>
        rw [sweep]
        have := ih xs [] (!f) s (by simp at hn ⊢; omega)
        exact Nat.le_trans (sweepAt_len ..) (by simp at this ⊢; omega)
      | cons y ys =>
        rw [sweep]
        split
        · have := ih xs (y :: ys) (!f) s (by simp at hn ⊢; omega)
          exact Nat.le_trans (sweepAt_len ..) (by simp at this ⊢; omega)
        · split
          · have := ih xs ys (!f) (!s) (by simp at hn ⊢; omega)
            exact Nat.le_trans (sweepAt_len ..) (by simp at this ⊢; omega)
          · have := ih (x :: xs) ys f (!s) (by simp at hn ⊢; omega)
            exact Nat.le_trans (sweepAt_len ..) (by simp at this ⊢; omega)
end S
namespace S
open PySem PySem.Spec PyProof.Rows L2
def t_turned_2 (K : Frag) (E : XK) : TS :=
    tRet (tOp (oAdd K) (dTup K (tCons (tC (.int 0)) (tNil))) (tCB (cTuple K) (tCons (dVar 0) (tNil))))
def t_turned_1 (K : Frag) (E : XK) : TS :=
    tSeq (dIfS (dAnd (dCmpT oGt (tCB (cLen K) (tCons (dVar 0) (tNil))) (tC (.int 0))) (dCmpT (oEq K) (tOp (oIx K) (dVar 0) (tC (.int 0))) (tC (.int 0)))) (tRet (tCB (cTuple K) (tCons (tSl (oSl K) (dVar 0) (dPart (tC (.int 1))) (tNoPart)) (tNil)))) (tNext))
    (stop (t_turned_2 K E))
def t_turned (K : Frag) (E : XK) : TS :=
    tSeq (dIfS (dCmpT (oEq K) (dVar 1) (tC (.int 0))) (tRet (dTup K (tNil))) (tNext))
    (stop (t_turned_1 K E))
end S
-- fn: turned
-- law: k03
-- deps: D0
namespace S
open PySem PySem.Spec PyProof.Rows L2
def mTurned (ends : List Int) (size : Int) : List Int := if size = 0 then [] else match ends with
  | 0 :: r => r
  | l => 0 :: l
def sp_turned (K : Frag) : Sp := fun vs H Q _ => ∃ (p : Addr) (ns : List Int) (size : Int), vs = [.ref p, .int size] ∧ SqA K H p (ns.map V.int) ∧ ns.length ≤ 100000 ∧
  ∀ (t : Addr) (H' : Hp), Same H H' → SqT K H' t ((mTurned ns size).map V.int) → Q (.ref t) H'
theorem at_zero {x : V} {xs : List V} : atI (x :: xs) 0 = some x := atI_nat (j := 0) rfl
theorem cut_one {x : V} {xs : List V} : cutV (x :: xs) (some 1) none = xs := by
  unfold cutV
  have e1 : HT.sIx (x :: xs).length 0 (some 1) = 1 := by
    have := HT.sIx_nat (x :: xs).length 0 1
    rw [show (1 : Int) = ((1 : Nat) : Int) from rfl, this, List.length_cons]; omega
  rw [e1, HT.sIx_none]
  simp
theorem pure_turned {K : Frag} (vs : List V) (H : Hp) (Q : VK) (E : XK) (h : sp_turned K vs H Q E) : t_turned K E { nx := fun _ H' => Q .non H', rt := Q } (start ["ends", "size"] vs) H := by
  obtain ⟨p, ns, size, rfl, hp, hl, q⟩ := h
  walk_at "gx"
  refine ifd (fun h0 => ?_) (fun h0 => ?_)
  · walk_at "gx"
    refine ⟨fun t H1 e h => q t H1 e ?_⟩
    have : mTurned ns size = [] := if_pos h0
    rw [this]; exact h
  walk_at "gx"
  rw [List.length_map]
  have rest : (∀ r, ns ≠ 0 :: r) → t_turned_2 K E { nx := fun _ H' => Q .non H', rt := Q } [some (.ref p), some (.int size)] H := by
    intro hn
    have e : mTurned ns size = 0 :: ns := by
      unfold mTurned
      rw [if_neg h0]
      cases ns with
      | nil => rfl
      | cons x r =>
        split
        · rename_i r' e; exact absurd e (hn _)
        · rfl
    walk_at "gx"
    refine ⟨fun t H1 e1 ht => ?_⟩
    have hp1 := Same.sqa e1 hp
    walk_at "gx"
    refine ⟨fun t2 H2 e2 ht2 => ?_⟩
    refine Cat.t (Same.tup e2 ht) ht2 (by simp only [List.length_cons, List.length_nil, List.length_map, sizeLine_eq]; omega) fun t3 H3 e3 ht3 => ?_
    refine q t3 H3 (e1.trans (e2.trans e3)) ?_
    rw [e]; exact ht3
  refine ifd (fun hlen => ?_) (fun hlen => ?_)
  · cases ns with
    | nil => exact absurd hlen (by decide)
    | cons x r =>
      have hx0 : atI ((x :: r).map V.int) 0 = some (.int x) := at_zero
      walk_at "gx"
      refine ifd (fun hx => ?_) (fun hx => ?_)
      · subst hx
        have e : mTurned (0 :: r) size = r := if_neg h0
        rcases hp with hp | hp
        · refine Cut.l hp fun p1 hp1 => ?_
          rw [List.map_cons, cut_one]
          walk_at "gx"
          refine ⟨fun t2 H2 e2 ht2 => q t2 H2 ((same_new hp1).trans e2) (by rw [e]; exact ht2)⟩
        · refine Cut.t hp fun p1 H1 e1 hp1 => ?_
          rw [List.map_cons, cut_one] at hp1
          walk_at "gx"
          refine ⟨fun t2 H2 e2 ht2 => q t2 H2 (e1.trans e2) (by rw [e]; exact ht2)⟩
      · exact ⟨rest fun r' e => hx (List.cons.inj e).1⟩
  · refine ⟨rest fun r' e => ?_⟩
    subst e
    exact hlen (by show (0 : Int) < ((r'.length + 1 : Nat) : Int); omega)
end S
-- deps: D0 D1 turned _law_in
namespace S
open PySem PySem.Spec PyProof.Rows L2
theorem turned_zero {ns : List Int} : mTurned ns 0 = [] := if_pos rfl
theorem turned_some {r : List Int} {size : Int} (h : size ≠ 0) : mTurned (0 :: r) size = r := if_neg h
theorem turned_none {ns : List Int} {size : Int} (h : size ≠ 0) (hn : ∀ r, ns ≠ 0 :: r) : mTurned ns size = 0 :: ns := by
  unfold mTurned
  rw [if_neg h]
  split
  · rename_i r e; exact absurd rfl (hn _)
  · rfl
/-- the three ways of turned -/
theorem turned_ways {size : Int} {ns : List Int} (h : Ends size ns) : (size = 0 ∧ ns = [] ∧ mTurned ns size = []) ∨ (size ≠ 0 ∧ ∃ r, ns = 0 :: r ∧ mTurned ns size = r ∧ (∀ x ∈ r, 0 < x)) ∨ (size ≠ 0 ∧ mTurned ns size = 0 :: ns ∧ (∀ x ∈ ns, 0 < x)) := by
  by_cases h0 : size = 0
  · left
    subst h0
    refine ⟨rfl, ?_, turned_zero⟩
    cases ns with
    | nil => rfl
    | cons x r => have := h.2 x (List.mem_cons_self ..); omega
  · right
    by_cases hn : ∃ r, ns = 0 :: r
    · obtain ⟨r, rfl⟩ := hn
      exact .inl ⟨h0, r, rfl, turned_some h0, fun x hx => (List.pairwise_cons.mp h.1).1 x hx⟩
    · refine .inr ⟨h0, turned_none h0 fun r e => hn ⟨r, e⟩, fun x hx => ?_⟩
      cases ns with
      | nil => cases hx
      | cons y r =>
        have hy := h.2 y (List.mem_cons_self ..)
        have hy0 : y ≠ 0 := fun e => hn ⟨r, by rw [e]⟩
        rcases List.mem_cons.mp hx with rfl | hx
        · omega
        · have := (List.pairwise_cons.mp h.1).1 x hx; omega
theorem turned_ends {size : Int} {ns : List Int} (h : Ends size ns) (hs : 0 ≤ size) : Ends size (mTurned ns size) := by
  rcases turned_ways h with ⟨_, _, e⟩ | ⟨h0, r, e1, e, hp⟩ | ⟨h0, e, hp⟩
  · rw [e]; exact ⟨.nil, fun _ z => nomatch z⟩
  · rw [e]; subst e1; exact ⟨(List.pairwise_cons.mp h.1).2, fun x hx => h.2 x (List.mem_cons_of_mem _ hx)⟩
  · rw [e]
    refine ⟨List.pairwise_cons.mpr ⟨hp, h.1⟩, fun x hx => ?_⟩
    rcases List.mem_cons.mp hx with rfl | hx
    · omega
    · exact h.2 x hx
theorem turned_in {size row : Int} {ns : List Int} (h : Ends size ns) (h0 : 0 ≤ row) (h1 : row < size) : inB (mTurned ns size) row = !(inB ns row) := by
  rcases turned_ways h with ⟨e, _, _⟩ | ⟨_, r, e1, e, hp⟩ | ⟨_, e, hp⟩
  · omega
  · rw [e, e1, inB_cons, if_pos h0, Bool.not_not]
  · rw [e, inB_cons, if_pos h0]
theorem turned_twice {size : Int} {ns : List Int} (h : Ends size ns) : mTurned (mTurned ns size) size = ns := by
  rcases turned_ways h with ⟨e, e2, e3⟩ | ⟨h0, r, e1, e, hp⟩ | ⟨h0, e, hp⟩
  · rw [e2, e, turned_zero]
  · rw [e, e1]
    exact turned_none h0 fun r' z => by subst z; have := hp 0 (List.mem_cons_self ..); omega
  · rw [e]; exact turned_some h0
theorem turned_len {size : Int} {ns : List Int} : (mTurned ns size).length ≤ ns.length + 1 := by
  unfold mTurned
  split
  · simp
  · split <;> simp <;> omega
end S
-- deps: Bm
namespace S
open PySem PySem.Spec PyProof.Rows L2
theorem isi_bm {K : Frag} {H : Hp} {a : Addr} {n : Int} {es : List Int} {k : Bool → Prop} (h : Bm K H a n es) (q : k true) : Isi K H (.ref a) (.ref (He.ga K "Bitmap")) k := by
  obtain ⟨c, _, _, dx, p, hs, _⟩ := h
  exact ⟨.inr ⟨a, _, dx, _, true, rfl, hs, c.sc, c.si, by rw [mf_kit c.mf c.mf]; rfl, q⟩⟩
end S
namespace S
open PySem PySem.Spec PyProof.Rows L2
def t_Bitmap_paired_1 (K : Frag) (E : XK) : TS :=
    tRet (dGiv (CF K "Bitmap" ["ends", "size"]) (dMake K "Bitmap" (sp_Bitmapdd_initdd K) (EW E) (tCons (dAt K "size" (dVar 0)) (tCons (dCall (sp_swept K) (EW E) (tCons (dAt K "ends" (dVar 0)) (tCons (dAt K "ends" (dVar 1)) (tCons (dVar 2) (tNil))))) (tNil)))))
def t_Bitmap_paired (K : Frag) (E : XK) : TS :=
    tSeq (dIfS (dCmpT (oNe K) (dAt K "size" (dVar 0)) (dAt K "size" (dVar 1))) (dGivS (ExF K "SizesDiffer" ["SliceError"]) (dRaise K "SizesDiffer" (WD E))) (tNext))
    (stop (t_Bitmap_paired_1 K E))
end S
-- fn: Bitmap.paired
-- law: k05
-- deps: Bm Bitmap_init swept turned turned_law isi_bm
namespace S
open PySem PySem.Spec PyProof.Rows L2
def joinE (r : Bool → Bool → Bool) (es fs : List Int) : List Int := sweep r es fs false false
theorem join_ends {r : Bool → Bool → Bool} {n : Int} {es fs : List Int} (h1 : Ends n es) (h2 : Ends n fs) : Ends n (joinE r es fs) := by
  obtain ⟨a, b, _⟩ := sweep_law r _ es fs false false 0 (Nat.le_refl _) h1.1 h2.1 (fun x hx => (h1.2 x hx).1) (fun x hx => (h2.2 x hx).1)
  refine ⟨a, fun z hz => ?_⟩
  obtain ⟨c, d | d⟩ := b z hz
  · exact ⟨c, (h1.2 z d).2⟩
  · exact ⟨c, (h2.2 z d).2⟩
theorem join_in {r : Bool → Bool → Bool} {n : Int} {es fs : List Int} (h1 : Ends n es) (h2 : Ends n fs) (h0 : r false false = false) (row : Int) : inB (joinE r es fs) row = r (inB es row) (inB fs row) := by
  obtain ⟨_, _, c⟩ := sweep_law r _ es fs false false 0 (Nat.le_refl _) h1.1 h2.1 (fun x hx => (h1.2 x hx).1) (fun x hx => (h2.2 x hx).1)
  have z := c row
  rw [h0] at z
  show inB (sweep r es fs false false) row = _
  simpa using z
theorem join_len {r : Bool → Bool → Bool} {es fs : List Int} : (joinE r es fs).length ≤ es.length + fs.length := sweep_len r _ es fs false false (Nat.le_refl _)
/-- what a joining of two bitmaps promises -/
def spJoin (K : Frag) (r : Bool → Bool → Bool) (x y : Addr) (H : Hp) (Q : VK) (E : XK) : Prop := ∃ (n m : Int) (es fs : List Int), Bm K H x n es ∧ Bm K H y m fs ∧ es.length ≤ 50000 ∧ fs.length ≤ 50000 ∧
  (n = m → ∀ z H', Same H H' → H z = none → Bm K H' z n (joinE r es fs) → Q (.ref z) H') ∧ (n ≠ m → XF K "SizesDiffer" → E (.ref (He.ga K "SizesDiffer")) none H)
def sp_Bitmap_paired (K : Frag) : Sp := fun vs H Q E => ∃ (x y t : Addr) (r : Bool → Bool → Bool), vs = [.ref x, .ref y, .ref t] ∧ SqT K H t (ruleV r) ∧ r false false = false ∧ spJoin K r x y H Q E
theorem pure_Bitmap_paired {K : Frag} (vs : List V) (H : Hp) (Q : VK) (E : XK) (h : sp_Bitmap_paired K vs H Q E) : t_Bitmap_paired K E { nx := fun _ H' => Q .non H', rt := Q } (start ["self", "other", "rule"] vs) H := by
  obtain ⟨x, y, t, r, rfl, ht, h0, n, m, es, fs, hb, hb2, l1, l2, good, bad⟩ := h
  obtain ⟨c, n0, hE, dx, p, hs, hp⟩ := id hb
  obtain ⟨_, m0, hF, dy, q, hs2, hq⟩ := id hb2
  walk_at "gx"
  refine Atr.sl c hs (i := 1) rfl rfl ?_
  walk_at "gx"
  refine Atr.sl c hs2 (i := 1) rfl rfl ?_
  refine ifn (fun hn => ?_) (fun hn => ?_)
  · exact bad hn
  · subst hn
    walk_at "gx"
    refine fun _ => ?_
    refine Atr.sl c hs (i := 1) rfl rfl ?_
    walk_at "gx"
    refine Atr.sl c hs (i := 0) rfl rfl ?_
    walk_at "gx"
    refine Atr.sl c hs2 (i := 0) rfl rfl ?_
    refine ⟨p, q, t, es, fs, r, rfl, .inr hp, .inr hq, ht, h0, by omega, by omega, fun u H1 e1 hu => ?_⟩
    refine mk_bitmap c (.inr hu) (fun _ _ z H2 e2 nz hz => ?_) (fun nb => absurd ⟨n0, join_ends hE hF⟩ nb)
    refine good rfl z H2 (e1.trans e2) ?_ hz
    cases e : H z with
    | none => rfl
    | some o => rw [e1 _ _ e] at nz; cases nz
end S
namespace S
open PySem PySem.Spec PyProof.Rows L2
def t_Bitmapdd_anddd (K : Frag) (E : XK) : TS :=
    tRet (dMeth K "Bitmap" (sp_Bitmap_paired K) (EW E) (dVar 0) (tCons (dVar 1) (tCons (dGiv (TupG K "AND" [V.int 0, V.int 0, V.int 0, V.int 1]) (tC (.ref (He.ga K "AND")))) (tNil))))
end S
namespace S
open PySem PySem.Spec PyProof.Rows L2
def t_Bitmapdd_ordd (K : Frag) (E : XK) : TS :=
    tRet (dMeth K "Bitmap" (sp_Bitmap_paired K) (EW E) (dVar 0) (tCons (dVar 1) (tCons (dGiv (TupG K "OR" [V.int 0, V.int 1, V.int 1, V.int 1]) (tC (.ref (He.ga K "OR")))) (tNil))))
end S
namespace S
open PySem PySem.Spec PyProof.Rows L2
def t_Bitmapdd_xordd (K : Frag) (E : XK) : TS :=
    tRet (dMeth K "Bitmap" (sp_Bitmap_paired K) (EW E) (dVar 0) (tCons (dVar 1) (tCons (dGiv (TupG K "XOR" [V.int 0, V.int 1, V.int 1, V.int 0]) (tC (.ref (He.ga K "XOR")))) (tNil))))
end S
namespace S
open PySem PySem.Spec PyProof.Rows L2
def t_Bitmapdd_subdd (K : Frag) (E : XK) : TS :=
    tRet (dMeth K "Bitmap" (sp_Bitmap_paired K) (EW E) (dVar 0) (tCons (dVar 1) (tCons (dGiv (TupG K "LESS" [V.int 0, V.int 0, V.int 1, V.int 0]) (tC (.ref (He.ga K "LESS")))) (tNil))))
end S
namespace S
open PySem PySem.Spec PyProof.Rows L2
def t_Bitmapdd_invertdd (K : Frag) (E : XK) : TS :=
    tRet (dGiv (CF K "Bitmap" ["ends", "size"]) (dMake K "Bitmap" (sp_Bitmapdd_initdd K) (EW E) (tCons (dAt K "size" (dVar 0)) (tCons (dCall (sp_turned K) (EW E) (tCons (dAt K "ends" (dVar 0)) (tCons (dAt K "size" (dVar 0)) (tNil)))) (tNil)))))
end S
namespace S
open PySem PySem.Spec PyProof.Rows L2
def t_Bitmapdd_eqdd (K : Frag) (E : XK) : TS :=
    tRet (dAndV (dGiv (MF K "Bitmap" [] ["object"]) (tCB (cIsi K) (tCons (dVar 1) (tCons (tC (.ref (He.ga K "Bitmap"))) (tNil))))) (dAndV (tOp (oEq K) (dAt K "size" (dVar 0)) (dAt K "size" (dVar 1))) (tOp (oEq K) (dAt K "ends" (dVar 0)) (dAt K "ends" (dVar 1)))))
end S
namespace S
open PySem PySem.Spec PyProof.Rows L2
def t_Bitmapdd_booldd (K : Frag) (E : XK) : TS :=
    tRet (tCB (cBool K) (tCons (dAt K "ends" (dVar 0)) (tNil)))
end S
-- fn: Bitmap.__and__ Bitmap.__or__ Bitmap.__xor__ Bitmap.__sub__ Bitmap.__invert__ Bitmap.__eq__ Bitmap.__bool__
-- law: k05
-- deps: Bm Bitmap_init swept turned turned_law isi_bm Bitmap_paired
namespace S
open PySem PySem.Spec PyProof.Rows L2
def rAnd (a b : Bool) : Bool := a && b
def rOr (a b : Bool) : Bool := a || b
def rXor (a b : Bool) : Bool := a ^^ b
def rLess (a b : Bool) : Bool := a && !b
def spOp (K : Frag) (r : Bool → Bool → Bool) : Sp := fun vs H Q E => ∃ (x y : Addr), vs = [.ref x, .ref y] ∧ spJoin K r x y H Q E
def sp_Bitmapdd_anddd (K : Frag) : Sp := fun vs H Q E => ∃ (x y : Addr), vs = [.ref x, .ref y] ∧ spJoin K rAnd x y H Q E
def sp_Bitmapdd_ordd (K : Frag) : Sp := fun vs H Q E => ∃ (x y : Addr), vs = [.ref x, .ref y] ∧ spJoin K rOr x y H Q E
def sp_Bitmapdd_xordd (K : Frag) : Sp := fun vs H Q E => ∃ (x y : Addr), vs = [.ref x, .ref y] ∧ spJoin K rXor x y H Q E
def sp_Bitmapdd_subdd (K : Frag) : Sp := fun vs H Q E => ∃ (x y : Addr), vs = [.ref x, .ref y] ∧ spJoin K rLess x y H Q E
theorem join_slt {K : Frag} {r : Bool → Bool → Bool} {x y : Addr} {H : Hp} {Q : VK} {E : XK} (h : spJoin K r x y H Q E) : ∃ dx vs, SlX.Slt H x (He.ga K "Bitmap") dx vs := by
  obtain ⟨n, m, es, fs, ⟨_, _, _, dx, p, hs, _⟩, _⟩ := h
  exact ⟨dx, _, hs⟩
theorem pure_Bitmapdd_anddd {K : Frag} (vs : List V) (H : Hp) (Q : VK) (E : XK) (h : sp_Bitmapdd_anddd K vs H Q E) : t_Bitmapdd_anddd K E { nx := fun _ H' => Q .non H', rt := Q } (start ["self", "other"] vs) H := by
  obtain ⟨x, y, rfl, h⟩ := h
  obtain ⟨dx, _, hs⟩ := join_slt h
  refine IsO.of hs ?_
  refine fun g => ?_
  exact ⟨x, y, _, rAnd, rfl, g _, rfl, h⟩
theorem pure_Bitmapdd_ordd {K : Frag} (vs : List V) (H : Hp) (Q : VK) (E : XK) (h : sp_Bitmapdd_ordd K vs H Q E) : t_Bitmapdd_ordd K E { nx := fun _ H' => Q .non H', rt := Q } (start ["self", "other"] vs) H := by
  obtain ⟨x, y, rfl, h⟩ := h
  obtain ⟨dx, _, hs⟩ := join_slt h
  refine IsO.of hs ?_
  refine fun g => ?_
  exact ⟨x, y, _, rOr, rfl, g _, rfl, h⟩
theorem pure_Bitmapdd_xordd {K : Frag} (vs : List V) (H : Hp) (Q : VK) (E : XK) (h : sp_Bitmapdd_xordd K vs H Q E) : t_Bitmapdd_xordd K E { nx := fun _ H' => Q .non H', rt := Q } (start ["self", "other"] vs) H := by
  obtain ⟨x, y, rfl, h⟩ := h
  obtain ⟨dx, _, hs⟩ := join_slt h
  refine IsO.of hs ?_
  refine fun g => ?_
  exact ⟨x, y, _, rXor, rfl, g _, rfl, h⟩
theorem pure_Bitmapdd_subdd {K : Frag} (vs : List V) (H : Hp) (Q : VK) (E : XK) (h : sp_Bitmapdd_subdd K vs H Q E) : t_Bitmapdd_subdd K E { nx := fun _ H' => Q .non H', rt := Q } (start ["self", "other"] vs) H := by
  obtain ⟨x, y, rfl, h⟩ := h
  obtain ⟨dx, _, hs⟩ := join_slt h
  refine IsO.of hs ?_
  refine fun g => ?_
  exact ⟨x, y, _, rLess, rfl, g _, rfl, h⟩
def sp_Bitmapdd_invertdd (K : Frag) : Sp := fun vs H Q _ => ∃ (x : Addr) (n : Int) (es : List Int), vs = [.ref x] ∧ Bm K H x n es ∧ es.length ≤ 50000 ∧ ∀ z H', Same H H' → H z = none → Bm K H' z n (mTurned es n) → Q (.ref z) H'
theorem pure_Bitmapdd_invertdd {K : Frag} (vs : List V) (H : Hp) (Q : VK) (E : XK) (h : sp_Bitmapdd_invertdd K vs H Q E) : t_Bitmapdd_invertdd K E { nx := fun _ H' => Q .non H', rt := Q } (start ["self"] vs) H := by
  obtain ⟨x, n, es, rfl, hb, l, q⟩ := h
  obtain ⟨c, n0, hE, dx, p, hs, hp⟩ := id hb
  refine fun _ => ?_
  refine Atr.sl c hs (i := 1) rfl rfl ?_
  walk_at "gx"
  refine Atr.sl c hs (i := 0) rfl rfl ?_
  walk_at "gx"
  refine Atr.sl c hs (i := 1) rfl rfl ?_
  refine ⟨p, es, n, rfl, .inr hp, by omega, fun u H1 e1 hu => ?_⟩
  refine mk_bitmap c (.inr hu) (fun _ _ z H2 e2 nz hz => ?_) (fun nb => absurd ⟨n0, turned_ends hE n0⟩ nb)
  refine q z H2 (e1.trans e2) ?_ hz
  cases e : H z with
  | none => rfl
  | some o => rw [e1 _ _ e] at nz; cases nz
def sp_Bitmapdd_booldd (K : Frag) : Sp := fun vs H Q _ => ∃ (x : Addr) (n : Int) (es : List Int), vs = [.ref x] ∧ Bm K H x n es ∧ Q (.bl (decide (es ≠ []))) H
theorem pure_Bitmapdd_booldd {K : Frag} (vs : List V) (H : Hp) (Q : VK) (E : XK) (h : sp_Bitmapdd_booldd K vs H Q E) : t_Bitmapdd_booldd K E { nx := fun _ H' => Q .non H', rt := Q } (start ["self"] vs) H := by
  obtain ⟨x, n, es, rfl, hb, q⟩ := h
  obtain ⟨c, n0, hE, dx, p, hs, hp⟩ := id hb
  refine Atr.sl c hs (i := 0) rfl rfl ?_
  walk_at "gx"
  have e : decide (es.map V.int ≠ []) = decide (es ≠ []) := by cases es <;> rfl
  rw [e]
  exact q
theorem shp_intsT (ns : List Int) : SeqAt.shaped (.tuple (ns.map PyData.int)) = true := by
  unfold SeqAt.shaped
  have e1 : PyData.canLay0 (.tuple (ns.map PyData.int)) = true := can_ints ns
  have e2 : PyData.depth (.tuple (ns.map PyData.int)) = 1 := by show PyData.depthAll _ + 1 = 1; rw [dep_ints]
  rw [e1, e2]; rfl
theorem eqd_tt {K : Frag} {H : Hp} {a b : Addr} {xs ys : List Int} {k : Bool → Prop} (h : SqT K H a (xs.map V.int)) (h2 : SqT K H b (ys.map V.int)) (q : k (decide (xs = ys))) : EqD K H (.ref a) (.ref b) k :=
  ⟨_, _, .tup h (dp_ints xs), .tup h2 (dp_ints ys), shp_intsT xs, shp_intsT ys, by
    have e : PyData.eqv (.tuple (xs.map PyData.int)) (.tuple (ys.map PyData.int)) = decide (xs = ys) := eqv_ints xs ys
    rw [e]; exact q⟩
/-- what stands behind ==: a bitmap, or something that is none -/
def BmV (K : Frag) (H : Hp) (y : V) (m : Int) (fs : List Int) : Prop := (∃ b, y = .ref b ∧ Bm K H b m fs) ∨ (m = -1 ∧ ∀ k : Bool → Prop, k false → MF K "Bitmap" [] ["object"] → Isi K H y (.ref (He.ga K "Bitmap")) k)
instance {K : Frag} {H : Hp} {b : Addr} {m : Int} {fs : List Int} : Coe (Bm K H b m fs) (BmV K H (.ref b) m fs) := ⟨fun h => .inl ⟨b, rfl, h⟩⟩
instance : Coe Addr V := ⟨V.ref⟩
def sp_Bitmapdd_eqdd (K : Frag) : Sp := fun vs H Q _ => ∃ (x : Addr) (y : V) (n m : Int) (es fs : List Int), vs = [.ref x, y] ∧ Bm K H x n es ∧ BmV K H y m fs ∧ Q (.bl (decide (n = m ∧ es = fs))) H
theorem pure_Bitmapdd_eqdd {K : Frag} (vs : List V) (H : Hp) (Q : VK) (E : XK) (h : sp_Bitmapdd_eqdd K vs H Q E) : t_Bitmapdd_eqdd K E { nx := fun _ H' => Q .non H', rt := Q } (start ["self", "other"] vs) H := by
  obtain ⟨x, y, n, m, es, fs, rfl, hb, hb2, q⟩ := h
  obtain ⟨c, n0, hE, dx, p, hs, hp⟩ := id hb
  rcases hb2 with ⟨y, rfl, hb2⟩ | ⟨rfl, isi⟩
  · obtain ⟨_, m0, hF, dy, p2, hs2, hp2⟩ := id hb2
    refine fun _ => ?_
    refine isi_bm hb2 ?_
    refine Atr.sl c hs (i := 1) rfl rfl ?_
    refine Atr.sl c hs2 (i := 1) rfl rfl ?_
    refine ifd (fun h1 => ?_) (fun h1 => ?_)
    · refine Atr.sl c hs (i := 0) rfl rfl ?_
      refine Atr.sl c hs2 (i := 0) rfl rfl ?_
      refine eqd_tt hp hp2 ?_
      have e : decide (n = m ∧ es = fs) = decide (es = fs) := by simp [h1]
      rw [e] at q
      exact q
    · have e : decide (n = m ∧ es = fs) = false := decide_eq_false fun z => h1 z.1
      rw [e] at q
      exact q
  · refine fun mf => ?_
    refine isi _ ?_ mf
    have e : decide (n = -1 ∧ es = fs) = false := decide_eq_false fun z => by omega
    rw [e] at q
    exact q
end S
namespace S
open PySem PySem.Spec PyProof.Rows L2
def t__law_one_sided_1 (K : Frag) (E : XK) : TS :=
    tRet (tCB (cSorted K) (tCons (tOp (oAdd K) (dVar 2) (dLc (iSeq K (dVar 1)) (gName 3) (dCmpT (oNin K) (dVar 3) (dVar 0)) (dVar 3) [3])) (tNil)))
def t__law_one_sided (K : Frag) (E : XK) : TS :=
    tSeq (tAsg (dLc (iSeq K (dVar 0)) (gName 3) (dCmpT (oNin K) (dVar 3) (dVar 1)) (dVar 3) [3]) (gName 2))
    (stop (t__law_one_sided_1 K E))
end S
-- fn: _law_one_sided
-- law: k10
-- deps: D0 D1 _law_in Bitmap_ops
namespace S
open PySem PySem.Spec PyProof.Rows L2
theorem mem_iff (z : Int) : ∀ L : List Int, L.Pairwise (· < ·) → (z ∈ L ↔ inB L z ≠ inB L (z - 1))
  | [], _ => by simp [inB]
  | x :: r, h => by
    obtain ⟨h1, h2⟩ := List.pairwise_cons.mp h
    rw [inB_cons, inB_cons, List.mem_cons]
    have ih := mem_iff z r h2
    by_cases e : z = x
    · subst e
      rw [if_pos (Int.le_refl _), if_neg (by omega), inB_before h1, inB_before fun w hw => by have := h1 w hw; omega]
      simp
    · by_cases g : x < z
      · rw [if_pos (by omega), if_pos (by omega)]
        constructor
        · rintro (a | a)
          · exact absurd a e
          · have := ih.mp a
            simpa using this
        · intro a
          exact .inr (ih.mpr (by simpa using a))
      · rw [if_neg (by omega), if_neg (by omega)]
        constructor
        · rintro (a | a)
          · exact absurd a e
          · exact ih.mp a
        · intro a
          exact .inr (ih.mpr a)
/-- the ends of a ^ b -/
theorem xor_mem {n : Int} {es fs : List Int} (h1 : Ends n es) (h2 : Ends n fs) (z : Int) : z ∈ joinE rXor es fs ↔ (z ∈ es ∧ z ∉ fs) ∨ (z ∈ fs ∧ z ∉ es) := by
  rw [mem_iff z _ (join_ends (r := rXor) h1 h2).1, join_in h1 h2 rfl, join_in h1 h2 rfl, mem_iff z es h1.1, mem_iff z fs h2.1]
  unfold rXor
  cases inB es z <;> cases inB es (z - 1) <;> cases inB fs z <;> cases inB fs (z - 1) <;> simp
/-- two ascending lists with the same members -/
theorem asc_ext : ∀ (xs ys : List Int), xs.Pairwise (· < ·) → ys.Pairwise (· < ·) → (∀ z, z ∈ xs ↔ z ∈ ys) → xs = ys
  | [], [], _, _, _ => rfl
  | [], y :: r, _, _, h => by have := (h y).mpr (List.mem_cons_self ..); cases this
  | x :: r, [], _, _, h => by have := (h x).mp (List.mem_cons_self ..); cases this
  | x :: r, y :: r', h1, h2, h => by
    obtain ⟨a1, a2⟩ := List.pairwise_cons.mp h1
    obtain ⟨b1, b2⟩ := List.pairwise_cons.mp h2
    have e : x = y := by
      rcases List.mem_cons.mp ((h x).mp (List.mem_cons_self ..)) with e | e
      · exact e
      · rcases List.mem_cons.mp ((h y).mpr (List.mem_cons_self ..)) with f | f
        · exact f.symm
        · have := b1 x e; have := a1 y f; omega
    subst e
    rw [asc_ext r r' a2 b2 fun z => ?_]
    constructor
    · intro hz
      rcases List.mem_cons.mp ((h z).mp (List.mem_cons_of_mem _ hz)) with e | e
      · have := a1 z hz; omega
      · exact e
    · intro hz
      rcases List.mem_cons.mp ((h z).mpr (List.mem_cons_of_mem _ hz)) with e | e
      · have := b1 z hz; omega
      · exact e
def sp__law_one_sided (K : Frag) : Sp := fun vs H Q _ => ∃ (p q : Addr) (n : Int) (es fs : List Int), vs = [.ref p, .ref q] ∧ H p = some (.lst (es.map V.int)) ∧ H q = some (.lst (fs.map V.int)) ∧ Ends n es ∧ Ends n fs ∧ es.length ≤ 1000 ∧ fs.length ≤ 1000 ∧
  ∀ r H', Same H H' → H' r = some (.lst ((joinE rXor es fs).map V.int)) → Q (.ref r) H'
theorem pure__law_one_sided {K : Frag} (vs : List V) (H : Hp) (Q : VK) (E : XK) (h : sp__law_one_sided K vs H Q E) : t__law_one_sided K E { nx := fun _ H' => Q .non H', rt := Q } (start ["_law_one", "_law_other", "_law_ends_here", "_law_end"] vs) H := by
  obtain ⟨p, q, n, es, fs, rfl, hp, hq, hE, hF, l1, l2, k⟩ := h
  walk_at "gx"
  refine lc_map (fun v => v) (fun v => match v with | .int i => !decide (i ∈ fs) | _ => false) (.inl (SqL.of hp)) (by rw [List.length_map, sizeLine_eq]; omega) ?_ fun D H5 nD hD e5 => ?_
  · intro v H6 A B hm e6 hA hB
    obtain ⟨i, hi, rfl⟩ := List.mem_map.mp hm
    refine ⟨rfl, ?_⟩
    refine Rd.l (e6 _ _ hq) ⟨⟨rfl, flat_ints fs⟩, ?_⟩
    rw [inV_int]
    by_cases h : i ∈ fs
    · rw [decide_eq_true h]
      exact hB _ (Same.refl _) (by simp [h])
    · rw [decide_eq_false h]
      exact hA _ (Same.refl _) (by simp [h])
  · rw [map_filter_ints _ _ (fun i => !decide (i ∈ fs)) (fun i => i) (fun _ => rfl) (fun _ => rfl), List.map_id'] at hD
    refine ⟨?_⟩
    walk_at "gx"
    refine lc_map (fun v => v) (fun v => match v with | .int i => !decide (i ∈ es) | _ => false) (.inl (SqL.of (e5 _ _ hq))) (by rw [List.length_map, sizeLine_eq]; omega) ?_ fun D2 H6 nD2 hD2 e6 => ?_
    · intro v H7 A B hm e7 hA hB
      obtain ⟨i, hi, rfl⟩ := List.mem_map.mp hm
      refine ⟨rfl, ?_⟩
      refine Rd.l (e7 _ _ (e5 _ _ hp)) ⟨⟨rfl, flat_ints es⟩, ?_⟩
      rw [inV_int]
      by_cases h : i ∈ es
      · rw [decide_eq_true h]
        exact hB _ (Same.refl _) (by simp [h])
      · rw [decide_eq_false h]
        exact hA _ (Same.refl _) (by simp [h])
    · rw [map_filter_ints _ _ (fun i => !decide (i ∈ es)) (fun i => i) (fun _ => rfl) (fun _ => rfl), List.map_id'] at hD2
      have g1 := List.length_filter_le (fun i => !decide (i ∈ fs)) es
      have g2 := List.length_filter_le (fun i => !decide (i ∈ es)) fs
      refine Cat.l (e6 _ _ hD) hD2 (by simp only [sizeLine_eq, List.length_map]; omega) fun r nr => ?_
      rw [← List.map_append]
      refine ⟨⟨_, SqL.of upd_same, fun ns' r2 hperm hsrt nr2 => ?_⟩⟩
      have e7 := ((e5.trans e6).trans (same_new (o := .lst ((es.filter (fun i => !decide (i ∈ fs)) ++ fs.filter (fun i => !decide (i ∈ es))).map V.int)) nr)).trans (same_new (o := .lst (ns'.map V.int)) nr2)
      have hmem : ∀ z, z ∈ ns' ↔ z ∈ joinE rXor es fs := fun z => by
        rw [hperm.mem_iff, xor_mem hE hF z]
        simp
      have hnd : ns'.Nodup := hperm.nodup_iff.mpr (List.nodup_append.mpr ⟨(hE.1.imp fun h => by omega).filter _, (hF.1.imp fun h => by omega).filter _, fun x hx y hy e => by
        subst e
        have h1 := (List.mem_filter.mp hx).1
        have h2 := (List.mem_filter.mp hy).2
        simp at h2
        exact h2 h1⟩)
      have hlt : ns'.Pairwise (· < ·) := (hsrt.and hnd).imp fun h => by have := h.1; have := h.2; omega
      have e := asc_ext ns' _ hlt (join_ends (r := rXor) hE hF).1 hmem
      subst e
      exact k r2 _ e7 upd_same
end S
-- deps: Bm Bitmap_ops _law_in _law_one_sided
/-! ## slices: numbers of bits, place 0 first, the sign last -/
namespace S
open PySem PySem.Spec PyProof.Rows L2
def b2n (b : Bool) : Int := if b = true then 1 else 0
def twos : List Bool → Int
  | [] => 0
  | [b] => - b2n b
  | b :: c :: r => b2n b + 2 * twos (c :: r)
theorem twos_cons (b : Bool) {r : List Bool} (h : r ≠ []) : twos (b :: r) = b2n b + 2 * twos r := by
  cases r with
  | nil => exact absurd rfl h
  | cons c r => rfl
def numL (L : List (List Int)) (row : Int) : Int := twos (L.map fun es => inB es row)
theorem twos_dup (b : Bool) : ∀ bs : List Bool, twos (bs ++ [b, b]) = twos (bs ++ [b])
  | [] => by cases b <;> rfl
  | x :: r => by
    show twos (x :: (r ++ [b, b])) = twos (x :: (r ++ [b]))
    rw [twos_cons x (by simp), twos_cons x (by simp), twos_dup b r]
theorem twos_ext (b : Bool) (bs : List Bool) : ∀ k : Nat, twos (bs ++ [b] ++ List.replicate k b) = twos (bs ++ [b])
  | 0 => by simp
  | k + 1 => by
    have e : bs ++ [b] ++ List.replicate (k + 1) b = (bs ++ List.replicate k b) ++ [b, b] := by
      have : List.replicate k b ++ [b] = List.replicate (k + 1) b := by rw [List.replicate_succ']
      rw [List.append_assoc, List.append_assoc]
      congr 1
      rw [← this, ← List.append_assoc]
      have h2 : [b] ++ List.replicate k b = List.replicate k b ++ [b] := by rw [← List.replicate_succ']; rfl
      rw [h2, List.append_assoc]; rfl
    rw [e, twos_dup, List.append_assoc]
    have h2 : List.replicate k b ++ [b] = [b] ++ List.replicate k b := by rw [← List.replicate_succ']; rfl
    rw [h2, ← List.append_assoc]
    exact twos_ext b bs k
theorem twos_range : ∀ (bs : List Bool) (x : Bool), -(2 ^ bs.length : Int) ≤ twos (bs ++ [x]) ∧ twos (bs ++ [x]) < 2 ^ bs.length
  | [], x => by cases x <;> decide
  | b :: r, x => by
    obtain ⟨h1, h2⟩ := twos_range r x
    show -(2 ^ (r.length + 1) : Int) ≤ twos (b :: (r ++ [x])) ∧ twos (b :: (r ++ [x])) < 2 ^ (r.length + 1)
    rw [twos_cons b (by simp), Int.pow_succ]
    have hb : b2n b = 0 ∨ b2n b = 1 := by cases b <;> simp [b2n]
    generalize (2 ^ r.length : Int) = p at *
    omega
theorem twos_hi : ∀ (bs : List Bool), (2 ^ bs.length : Int) ≤ twos (bs ++ [true, false])
  | [] => by decide
  | b :: r => by
    have h1 := twos_hi r
    show (2 ^ (r.length + 1) : Int) ≤ twos (b :: (r ++ [true, false]))
    rw [twos_cons b (by simp), Int.pow_succ]
    have hb : b2n b = 0 ∨ b2n b = 1 := by cases b <;> simp [b2n]
    generalize (2 ^ r.length : Int) = p at *
    omega
theorem twos_lo : ∀ (bs : List Bool), twos (bs ++ [false, true]) < -(2 ^ bs.length : Int)
  | [] => by decide
  | b :: r => by
    have h1 := twos_lo r
    show twos (b :: (r ++ [false, true])) < -(2 ^ (r.length + 1) : Int)
    rw [twos_cons b (by simp), Int.pow_succ]
    have hb : b2n b = 0 ∨ b2n b = 1 := by cases b <;> simp [b2n]
    generalize (2 ^ r.length : Int) = p at *
    omega
/-- two top bits that differ: one width less does not do -/
theorem twos_wide {bs : List Bool} {x y : Bool} (h : x ≠ y) : twos (bs ++ [x, y]) < -(2 ^ bs.length : Int) ∨ (2 ^ bs.length : Int) ≤ twos (bs ++ [x, y]) := by
  cases x <;> cases y
  · exact absurd rfl h
  · exact .inl (twos_lo bs)
  · exact .inr (twos_hi bs)
  · exact absurd rfl h
/-! ### the law's sum over the places -/
def accP (n : Nat) : Nat → List Bool → Int
  | _, [] => 0
  | j, b :: r => (if b = true then (if j + 1 = n then -(2 ^ j) else 2 ^ j) else 0) + accP n (j + 1) r
theorem acc_twos (n : Nat) : ∀ (r : List Bool) (j : Nat), j + r.length = n → accP n j r = 2 ^ j * twos r
  | [], j, _ => by show (0 : Int) = 2 ^ j * 0; rw [Int.mul_zero]
  | [b], j, h => by
    have h' : j + 1 = n := h
    show (if b = true then (if j + 1 = n then -(2 ^ j : Int) else 2 ^ j) else 0) + 0 = 2 ^ j * -(b2n b)
    rw [if_pos h']
    cases b
    · show (0 : Int) + 0 = 2 ^ j * -0; simp
    · show -(2 ^ j : Int) + 0 = 2 ^ j * -1
      rw [Int.mul_neg, Int.mul_one, Int.add_zero]
  | b :: c :: r, j, h => by
    have hl : j + (r.length + 1 + 1) = n := h
    show (if b = true then (if j + 1 = n then -(2 ^ j : Int) else 2 ^ j) else 0) + accP n (j + 1) (c :: r) = 2 ^ j * (b2n b + 2 * twos (c :: r))
    rw [acc_twos n (c :: r) (j + 1) (by show j + 1 + (r.length + 1) = n; omega), if_neg (show ¬ j + 1 = n by omega), Int.mul_add, Int.pow_succ, Int.mul_assoc]
    congr 1
    cases b
    · show (0 : Int) = 2 ^ j * 0; simp
    · show (2 ^ j : Int) = 2 ^ j * 1; simp
theorem acc_all (bs : List Bool) : accP bs.length 0 bs = twos bs := by
  rw [acc_twos bs.length bs 0 (by omega)]; show 1 * twos bs = _; rw [Int.one_mul]
/-! ### lists of bitmaps, of lists -/
/-- a place with its ends -/
abbrev Sli := Addr × List Int
def vB (t : Sli) : V := .ref t.1
def Bms (K : Frag) (H : Hp) (n : Int) (M : List Sli) : Prop := ∀ t ∈ M, Bm K H t.1 n t.2
theorem Bms.same {K : Frag} {H H' : Hp} {n : Int} {M : List Sli} (h : Bms K H n M) (e : Same H H') : Bms K H' n M := fun t ht => (h t ht).same e
theorem Bms.x {K : Frag} {H H' : Hp} {n : Int} {M : List Sli} {st : Addr} {l : List V} (h : Bms K H n M) (e : SameX st H H') (hst : H st = some (.lst l)) : Bms K H' n M := fun t ht => (h t ht).x e hst
def Lss (H : Hp) (n : Int) (most : Nat) (M : List Sli) : Prop := ∀ t ∈ M, H t.1 = some (.lst (t.2.map V.int)) ∧ Ends n t.2 ∧ t.2.length ≤ most
theorem Lss.same {H H' : Hp} {n : Int} {m : Nat} {M : List Sli} (h : Lss H n m M) (e : Same H H') : Lss H' n m M := fun t ht => let ⟨a, b, c⟩ := h t ht; ⟨e _ _ a, b, c⟩
theorem Lss.x {H H' : Hp} {n : Int} {m : Nat} {M : List Sli} {st : Addr} (h : Lss H n m M) (e : SameX st H H') (nst : ∀ t ∈ M, t.1 ≠ st) : Lss H' n m M := fun t ht => let ⟨a, b, c⟩ := h t ht; ⟨e _ _ a (nst t ht), b, c⟩
theorem atI_last {xs : List V} {y : V} : atI (xs ++ [y]) (-1) = some y := by
  unfold atI ixN
  rw [if_neg (by decide), if_pos (by simp; omega), Option.bind_some]
  have e : (-1 + ((xs ++ [y]).length : Int)).toNat = xs.length := by simp; omega
  rw [e]; simp
theorem atI_last2 {xs : List V} {y z : V} : atI (xs ++ [y, z]) (-2) = some y := by
  unfold atI ixN
  rw [if_neg (by decide), if_pos (by simp; omega), Option.bind_some]
  have e : (-2 + ((xs ++ [y, z]).length : Int)).toNat = xs.length := by simp; omega
  rw [e]; simp
theorem two_last {α : Type} (M : List α) (h : 1 < M.length) : ∃ A x y, M = A ++ [x, y] := by
  have h1 : M ≠ [] := fun z => by rw [z] at h; simp at h
  obtain ⟨A1, y, rfl⟩ : ∃ A y, M = A ++ [y] := ⟨M.dropLast, M.getLast h1, (List.dropLast_concat_getLast h1).symm⟩
  have h2 : A1 ≠ [] := fun z => by rw [z] at h; simp at h
  obtain ⟨A, x, rfl⟩ : ∃ A y, A1 = A ++ [y] := ⟨A1.dropLast, A1.getLast h2, (List.dropLast_concat_getLast h2).symm⟩
  exact ⟨A, x, y, by simp⟩
theorem one_last {α : Type} (M : List α) (h : M ≠ []) : ∃ A y, M = A ++ [y] := ⟨M.dropLast, M.getLast h, (List.dropLast_concat_getLast h).symm⟩
/-- two lists of ends that differ: at an end of one of them -/
theorem diff_row : ∀ (es fs : List Int), es.Pairwise (· < ·) → fs.Pairwise (· < ·) → es ≠ fs → ∃ z, (z ∈ es ∨ z ∈ fs) ∧ inB es z ≠ inB fs z
  | [], [], _, _, h => absurd rfl h
  | [], y :: r, _, h2, _ => ⟨y, .inr (List.mem_cons_self ..), by
    rw [inB_cons, if_pos (Int.le_refl _), inB_before (List.pairwise_cons.mp h2).1]; simp [inB]⟩
  | x :: r, [], h1, _, _ => ⟨x, .inl (List.mem_cons_self ..), by
    rw [inB_cons, if_pos (Int.le_refl _), inB_before (List.pairwise_cons.mp h1).1]; simp [inB]⟩
  | x :: r, y :: r', h1, h2, h => by
    obtain ⟨a1, a2⟩ := List.pairwise_cons.mp h1
    obtain ⟨b1, b2⟩ := List.pairwise_cons.mp h2
    rcases Int.lt_trichotomy x y with hl | hl | hl
    · refine ⟨x, .inl (List.mem_cons_self ..), ?_⟩
      rw [inB_cons, if_pos (Int.le_refl _), inB_before a1, inB_cons, if_neg (by omega), inB_before fun w hw => by have := b1 w hw; omega]
      simp
    · subst hl
      obtain ⟨z, hz, hd⟩ := diff_row r r' a2 b2 fun e => h (by rw [e])
      have hxz : x < z := by
        rcases hz with hz | hz
        · exact a1 z hz
        · exact b1 z hz
      refine ⟨z, hz.imp (List.mem_cons_of_mem _) (List.mem_cons_of_mem _), ?_⟩
      rw [inB_cons, inB_cons, if_pos (by omega), if_pos (by omega)]
      intro e
      exact hd (by simpa using e)
    · refine ⟨y, .inr (List.mem_cons_self ..), ?_⟩
      rw [inB_cons, if_neg (by omega), inB_before fun w hw => by have := a1 w hw; omega, inB_cons, if_pos (Int.le_refl _), inB_before b1]
      simp
/-- the fewest slices with the same numbers -/
structure Narrow (M M' : List Sli) : Prop where
  ne : M' ≠ []
  pre : ∃ r, M = M' ++ r
  num : ∀ row, numL (M'.map (·.2)) row = numL (M.map (·.2)) row
  top : ∀ A x y, M' = A ++ [x, y] → x.2 ≠ y.2
end S
-- deps: Bm Sl
/-! ## comprehensions that make objects -/
namespace S
open PySem PySem.Spec PyProof.Rows L2
theorem SameI.slt {H H' : Hp} {a C dx : Addr} {vs : List (Option V)} (e : SameI H H') (h : SlX.Slt H a C dx vs) : SlX.Slt H' a C dx vs := by
  rcases h with ⟨h, z⟩ | ⟨h, z⟩
  · exact .inl ⟨e _ _ h (fun _ z => by cases z), z⟩
  · exact .inr ⟨e _ _ h fun _ => slO_lst, e _ _ z (fun _ z => by cases z)⟩
theorem Bm.i {K : Frag} {H H' : Hp} {a : Addr} {n : Int} {es : List Int} (h : Bm K H a n es) (e : SameI H H') : Bm K H' a n es := by
  obtain ⟨c, h0, hE, dx, p, h1, h2⟩ := h
  exact ⟨c, h0, hE, dx, p, e.slt h1, e.tup h2⟩
/-- [e for x in xs]: of data known ahead, the elements told by a relation that the growing list does not touch -/
theorem lc_dat {α : Type} {K : Frag} {p : Addr} {i : Nat} {te : TE} {vs : List Nat} {σ : L2.St} {H1 : Hp} {Q : VK} (as : List α) (f : α → V) (R : Addr → α → V → Hp → Prop) (hx : SqA K H1 p (as.map f)) (hz : as.length < sizeLine)
    (mono : ∀ D a y H H' l, H D = some (.lst l) → R D a y H → SameX D H H' → R D a y H')
    (hs : ∀ (D : Addr) (l : List V) (j : Nat) (a : α) (H : Hp) (A : V → Hp → Prop), H1 D = none → H D = some (.lst l) → as[j]? = some a → Same H1 H → (∀ y H', Same H H' → R D a y H' → A y H') → wipe ((wipe σ vs).set i (some (f a))) vs = wipe σ vs ∧ te ((wipe σ vs).set i (some (f a))) H A)
    (hd : ∀ D ys H', H1 D = none → H' D = some (.lst ys) → Paired (fun a y => R D a y H') as ys → Same H1 H' → Q (.ref D) H') :
    Walk K H1 p (Wr (LcGo (gName i) tYes te vs σ Q)) := by
  refine lc_seq hx fun D hD => ⟨fun j H => ∃ ys, H D = some (.lst ys) ∧ Paired (fun a y => R D a y H) (as.take j) ys ∧ Same H1 H, ⟨[], upd_same, .nil, same_new hD⟩, fun i H _ ⟨_, _, _, e⟩ ys => ⟨e.seq, Same.tup e⟩, ?_, fun H ⟨ys, h1, h2, e⟩ => hd D ys H hD h1 (by rw [List.length_map, List.take_length] at h2; exact h2) e⟩
  rintro j x H hi ⟨ys, h1, h2, e⟩
  rw [List.getElem?_map] at hi
  cases hj : as[j]? with
  | none => rw [hj] at hi; cases hi
  | some a =>
    rw [hj] at hi
    cases hi
    have hil : j < as.length := (List.getElem?_eq_some_iff.mp hj).1
    have hlen : ys.length ≤ j := by
      rw [← h2.length, List.length_take]; exact Nat.min_le_left _ _
    obtain ⟨w, q⟩ := hs D ys j a H (fun y H4 => ∃ acc, H4 D = some (.lst acc) ∧ acc.length < sizeLine ∧ ∃ ys, upd H4 D (.lst (acc ++ [y])) D = some (.lst ys) ∧ Paired (fun a y' => R D a y' (upd H4 D (.lst (acc ++ [y])))) (as.take (j + 1)) ys ∧ Same H1 (upd H4 D (.lst (acc ++ [y])))) hD h1 hj e fun y H' e2 r => by
      have si : SameX D H' (L2.upd H' D (.lst (ys ++ [y]))) := SameX.upd
      refine ⟨ys, e2 _ _ h1, by omega, ys ++ [y], upd_same, ?_, fun b o hb => ?_⟩
      · rw [List.take_succ, hj]
        exact Paired.snoc (Paired.mapP h2 fun a b r => mono _ _ _ _ _ _ h1 r (Same.thenX e2 si)) (mono _ _ _ _ _ _ (e2 _ _ h1) r si)
      · rw [upd_ne (ne_of_none hb hD)]
        exact e2 _ _ (e _ _ hb)
    refine ⟨w, ?_⟩
    unfold tYes
    dsimp only
    rw [if_pos rfl]
    exact q
/-- the lists that a comprehension made -/
theorem paired_lst {α : Type} {H : Hp} {D : Addr} {es : α → List Int} : ∀ {as : List α} {ys : List V}, Paired (fun a y => ∃ x, y = .ref x ∧ x ≠ D ∧ H x = some (.lst ((es a).map V.int))) as ys → ∃ M : List Sli, ys = M.map vB ∧ M.map (·.2) = as.map es ∧ ∀ t ∈ M, H t.1 = some (.lst (t.2.map V.int))
  | _, _, .nil => ⟨[], rfl, rfl, fun _ z => nomatch z⟩
  | _, _, .cons (a := a) ⟨x, e, _, hb⟩ h => by
    obtain ⟨M, h1, h2, h3⟩ := paired_lst h
    refine ⟨(x, es a) :: M, by rw [e, h1]; rfl, by rw [List.map_cons, List.map_cons, h2], fun t ht => ?_⟩
    rcases List.mem_cons.mp ht with rfl | ht
    · exact hb
    · exact h3 t ht
/-- pairs of data with their bitmaps as a list of places with ends -/
theorem paired_sli {α : Type} {K : Frag} {H : Hp} {n : Int} {es : α → List Int} : ∀ {as : List α} {ys : List V}, Paired (fun a y => ∃ x, y = .ref x ∧ Bm K H x n (es a)) as ys → ∃ M : List Sli, ys = M.map vB ∧ M.map (·.2) = as.map es ∧ Bms K H n M
  | _, _, .nil => ⟨[], rfl, rfl, fun _ z => nomatch z⟩
  | _, _, .cons (a := a) ⟨x, e, hb⟩ h => by
    obtain ⟨M, h1, h2, h3⟩ := paired_sli h
    refine ⟨(x, es a) :: M, by rw [e, h1]; rfl, by rw [List.map_cons, List.map_cons, h2], fun t ht => ?_⟩
    rcases List.mem_cons.mp ht with rfl | ht
    · exact hb
    · exact h3 t ht
end S
-- deps: Bm Bitmap_ops Sl Lc
/-! ## bitmaps told by their rows, their ends among known ones -/
namespace S
open PySem PySem.Spec PyProof.Rows L2
structure Kn (S : List Int) : Prop where
  zero : (0 : Int) ∈ S
  len : S.length ≤ 1000
theorem asc_len : ∀ (L S : List Int), L.Pairwise (· < ·) → (∀ z ∈ L, z ∈ S) → L.length ≤ S.length
  | [], _, _, _ => Nat.zero_le _
  | x :: r, S, h, hs => by
    obtain ⟨h1, h2⟩ := List.pairwise_cons.mp h
    have hx := hs x (List.mem_cons_self ..)
    have ih := asc_len r (S.erase x) h2 fun z hz => (List.mem_erase_of_ne (by have := h1 z hz; omega)).mpr (hs z (List.mem_cons_of_mem _ hz))
    have e := List.length_erase_of_mem hx
    have hp : 0 < S.length := List.length_pos_of_mem hx
    rw [List.length_cons]; omega
def Bs (K : Frag) (H : Hp) (x : Addr) (n : Int) (f : Int → Bool) (S : List Int) : Prop := ∃ es, Bm K H x n es ∧ (∀ z ∈ es, z ∈ S) ∧ ∀ row, 0 ≤ row → row < n → inB es row = f row
theorem Bs.same {K : Frag} {H H' : Hp} {x : Addr} {n : Int} {f : Int → Bool} {S : List Int} (h : Bs K H x n f S) (e : Same H H') : Bs K H' x n f S := let ⟨es, a, b, c⟩ := h; ⟨es, a.same e, b, c⟩
theorem Bs.x {K : Frag} {H H' : Hp} {x st : Addr} {n : Int} {f : Int → Bool} {S : List Int} {l : List V} (h : Bs K H x n f S) (e : SameX st H H') (hst : H st = some (.lst l)) : Bs K H' x n f S := let ⟨es, a, b, c⟩ := h; ⟨es, a.x e hst, b, c⟩
theorem Bs.slt {K : Frag} {H : Hp} {x : Addr} {n : Int} {f : Int → Bool} {S : List Int} (h : Bs K H x n f S) : ∃ dx vs, SlX.Slt H x (He.ga K "Bitmap") dx vs := let ⟨_, ⟨_, _, _, dx, _, a, _⟩, _⟩ := h; ⟨dx, _, a⟩
theorem sweep_mem {r : Bool → Bool → Bool} {n z : Int} {es fs : List Int} (h1 : Ends n es) (h2 : Ends n fs) (h : z ∈ joinE r es fs) : z ∈ es ∨ z ∈ fs := by
  obtain ⟨_, b, _⟩ := sweep_law r _ es fs false false 0 (Nat.le_refl _) h1.1 h2.1 (fun x hx => (h1.2 x hx).1) (fun x hx => (h2.2 x hx).1)
  exact (b z h).2
theorem turned_memS {n z : Int} {es : List Int} (h : z ∈ mTurned es n) : z = 0 ∨ z ∈ es := by
  unfold mTurned at h
  split at h
  · cases h
  · split at h
    · exact .inr (List.mem_cons_of_mem _ h)
    · rcases List.mem_cons.mp h with h | h
      · exact .inl h
      · exact .inr h
section
variable {K : Frag} {H : Hp} {x y : Addr} {n : Int} {f g : Int → Bool} {S : List Int} {Q : VK} {E : XK}
theorem bs_join {r : Bool → Bool → Bool} (kn : Kn S) (h1 : Bs K H x n f S) (h2 : Bs K H y n g S) (h0 : r false false = false) (q : ∀ z H', Same H H' → H z = none → Bs K H' z n (fun row => r (f row) (g row)) S → Q (.ref z) H') : spJoin K r x y H Q E := by
  obtain ⟨es, b1, a1, c1⟩ := h1
  obtain ⟨fs, b2, a2, c2⟩ := h2
  have l1 := asc_len es S b1.2.2.1.1 a1
  have l2 := asc_len fs S b2.2.2.1.1 a2
  have l3 := kn.len
  refine ⟨n, n, es, fs, b1, b2, by omega, by omega, fun _ z H' e nz hz => q z H' e nz ⟨_, hz, fun w hw => ?_, fun row r0 r1 => ?_⟩, fun z => absurd rfl z⟩
  · rcases sweep_mem b1.2.2.1 b2.2.2.1 hw with hw | hw
    · exact a1 w hw
    · exact a2 w hw
  · rw [join_in b1.2.2.1 b2.2.2.1 h0, c1 row r0 r1, c2 row r0 r1]
theorem bs_O2 {P : Prop} (h1 : Bs K H x n f S) (h2 : Bs K H y n g S) (q : P) : IsO K H "Bitmap" x (IsO K H "Bitmap" y P) := by
  obtain ⟨dx, vs, a⟩ := h1.slt
  obtain ⟨dy, ws, b⟩ := h2.slt
  exact .of a (.of b q)
theorem bs_and (kn : Kn S) (h1 : Bs K H x n f S) (h2 : Bs K H y n g S) (q : ∀ z H', Same H H' → H z = none → Bs K H' z n (fun row => rAnd (f row) (g row)) S → Q (.ref z) H') : IsO K H "Bitmap" x (IsO K H "Bitmap" y (sp_Bitmapdd_anddd K [.ref x, .ref y] H Q E)) := bs_O2 h1 h2 ⟨x, y, rfl, bs_join kn h1 h2 rfl q⟩
theorem bs_or (kn : Kn S) (h1 : Bs K H x n f S) (h2 : Bs K H y n g S) (q : ∀ z H', Same H H' → H z = none → Bs K H' z n (fun row => rOr (f row) (g row)) S → Q (.ref z) H') : IsO K H "Bitmap" x (IsO K H "Bitmap" y (sp_Bitmapdd_ordd K [.ref x, .ref y] H Q E)) := bs_O2 h1 h2 ⟨x, y, rfl, bs_join kn h1 h2 rfl q⟩
theorem bs_xor (kn : Kn S) (h1 : Bs K H x n f S) (h2 : Bs K H y n g S) (q : ∀ z H', Same H H' → H z = none → Bs K H' z n (fun row => rXor (f row) (g row)) S → Q (.ref z) H') : IsO K H "Bitmap" x (IsO K H "Bitmap" y (sp_Bitmapdd_xordd K [.ref x, .ref y] H Q E)) := bs_O2 h1 h2 ⟨x, y, rfl, bs_join kn h1 h2 rfl q⟩
theorem bs_inv (kn : Kn S) (h1 : Bs K H x n f S) (q : ∀ z H', Same H H' → H z = none → Bs K H' z n (fun row => !(f row)) S → Q (.ref z) H') : IsO K H "Bitmap" x (sp_Bitmapdd_invertdd K [.ref x] H Q E) := by
  obtain ⟨dx, vs, a⟩ := h1.slt
  obtain ⟨es, b1, a1, c1⟩ := h1
  have l1 := asc_len es S b1.2.2.1.1 a1
  have l3 := kn.len
  refine .of a ⟨x, n, es, rfl, b1, by omega, fun z H' e nz hz => q z H' e nz ⟨_, hz, fun w hw => ?_, fun row r0 r1 => ?_⟩⟩
  · rcases turned_memS hw with hw | hw
    · rw [hw]; exact kn.zero
    · exact a1 w hw
  · rw [turned_in b1.2.2.1 r0 r1, c1 row r0 r1]
end
/-! ### lists of them -/
abbrev Slf := Addr × (Int → Bool)
def vF (t : Slf) : V := .ref t.1
def bitsF (M : List Slf) (row : Int) : List Bool := M.map fun t => t.2 row
def Bss (K : Frag) (H : Hp) (n : Int) (S : List Int) (M : List Slf) : Prop := ∀ t ∈ M, Bs K H t.1 n t.2 S
theorem Bss.same {K : Frag} {H H' : Hp} {n : Int} {S : List Int} {M : List Slf} (h : Bss K H n S M) (e : Same H H') : Bss K H' n S M := fun t ht => (h t ht).same e
theorem Bss.x {K : Frag} {H H' : Hp} {n : Int} {S : List Int} {M : List Slf} {st : Addr} {l : List V} (h : Bss K H n S M) (e : SameX st H H') (hst : H st = some (.lst l)) : Bss K H' n S M := fun t ht => (h t ht).x e hst
theorem Bss.sli {K : Frag} {H : Hp} {n : Int} {S : List Int} : ∀ {M : List Slf}, Bss K H n S M → ∃ T : List Sli, M.map vF = T.map vB ∧ T.length = M.length ∧ Bms K H n T ∧ (∀ t ∈ T, ∀ z ∈ t.2, z ∈ S) ∧ ∀ row, 0 ≤ row → row < n → T.map (fun t => inB t.2 row) = bitsF M row
  | [], _ => ⟨[], rfl, rfl, fun _ z => (nomatch z), fun _ z => (nomatch z), fun _ _ _ => rfl⟩
  | m :: M, h => by
    obtain ⟨T, h1, h2, h3, h4, h5⟩ := Bss.sli (M := M) fun t ht => h t (List.mem_cons_of_mem _ ht)
    obtain ⟨es, a, b, c⟩ := h m (List.mem_cons_self ..)
    refine ⟨(m.1, es) :: T, by rw [List.map_cons, List.map_cons, h1]; rfl, by simp [h2], fun t ht => ?_, fun t ht => ?_, fun row r0 r1 => ?_⟩
    · rcases List.mem_cons.mp ht with rfl | ht
      · exact a
      · exact h3 t ht
    · rcases List.mem_cons.mp ht with rfl | ht
      · exact b
      · exact h4 t ht
    · show inB es row :: _ = m.2 row :: _
      rw [c row r0 r1, h5 row r0 r1]; rfl
/-- bitmaps with their ends as such -/
theorem Bms.bss {K : Frag} {H : Hp} {n : Int} {S : List Int} {N : List Sli} (h : Bms K H n N) (hs : ∀ t ∈ N, ∀ z ∈ t.2, z ∈ S) : Bss K H n S (N.map fun t => (t.1, inB t.2)) := fun t ht => by
  obtain ⟨u, hu, rfl⟩ := List.mem_map.mp ht
  exact ⟨u.2, h u hu, hs u hu, fun _ _ _ => rfl⟩
theorem vF_sli (N : List Sli) : (N.map fun t => ((t.1, inB t.2) : Slf)).map vF = N.map vB := by rw [List.map_map]; rfl
theorem bitsF_sli (N : List Sli) (row : Int) : bitsF (N.map fun t => ((t.1, inB t.2) : Slf)) row = (N.map (·.2)).map (fun es => inB es row) := by
  unfold bitsF; rw [List.map_map, List.map_map]; rfl
/-! ### sums, negatives -/
def carB (x y c : Bool) : Bool := rOr (rAnd x y) (rAnd c (rXor x y))
def addB : List Bool → List Bool → Bool → List Bool
  | x :: a, y :: b, c => rXor (rXor x y) c :: addB a b (carB x y c)
  | _, _, _ => []
theorem addB_len : ∀ (a b : List Bool) (c : Bool), a.length = b.length → (addB a b c).length = a.length
  | [], [], _, _ => rfl
  | x :: a, y :: b, c, h => by
    show (addB a b _).length + 1 = a.length + 1
    rw [addB_len a b _ (by simpa using h)]
theorem addB_twos (x y : Bool) : ∀ (a b : List Bool) (c : Bool), a.length = b.length → twos (addB (a ++ [x, x]) (b ++ [y, y]) c) = twos (a ++ [x, x]) + twos (b ++ [y, y]) + b2n c
  | [], [], c, _ => by cases x <;> cases y <;> cases c <;> decide
  | u :: a, v :: b, c, h => by
    have hl : a.length = b.length := by simpa using h
    show twos (rXor (rXor u v) c :: addB (a ++ [x, x]) (b ++ [y, y]) (carB u v c)) = twos (u :: (a ++ [x, x])) + twos (v :: (b ++ [y, y])) + b2n c
    have ne : addB (a ++ [x, x]) (b ++ [y, y]) (carB u v c) ≠ [] := fun z => by
      have := addB_len (a ++ [x, x]) (b ++ [y, y]) (carB u v c) (by simp [hl])
      rw [z] at this; simp at this
    rw [twos_cons _ ne, twos_cons u (by simp), twos_cons v (by simp), addB_twos x y a b _ hl]
    have e : b2n (rXor (rXor u v) c) + 2 * b2n (carB u v c) = b2n u + b2n v + b2n c := by cases u <;> cases v <;> cases c <;> decide
    omega
def negB : List Bool → Bool → List Bool
  | x :: a, c => rXor (!x) c :: negB a (rAnd (!x) c)
  | [], _ => []
theorem negB_len : ∀ (a : List Bool) (c : Bool), (negB a c).length = a.length
  | [], _ => rfl
  | x :: a, c => by
    show (negB a _).length + 1 = a.length + 1
    rw [negB_len a _]
theorem negB_twos (x : Bool) : ∀ (a : List Bool) (c : Bool), twos (negB (a ++ [x, x]) c) = b2n c - 1 - twos (a ++ [x, x])
  | [], c => by cases x <;> cases c <;> decide
  | u :: a, c => by
    show twos (rXor (!u) c :: negB (a ++ [x, x]) (rAnd (!u) c)) = b2n c - 1 - twos (u :: (a ++ [x, x]))
    have ne : negB (a ++ [x, x]) (rAnd (!u) c) ≠ [] := fun z => by
      have := negB_len (a ++ [x, x]) (rAnd (!u) c)
      rw [z] at this; simp at this
    rw [twos_cons _ ne, twos_cons u (by simp), negB_twos x a _]
    have e : b2n (rXor (!u) c) + 2 * b2n (rAnd (!u) c) = b2n c + 1 - b2n u := by cases u <;> cases c <;> decide
    omega
theorem ext_top {α : Type} (A : List α) (y : α) (k : Nat) : A ++ [y] ++ List.replicate (k + 1) y = (A ++ List.replicate k y) ++ [y, y] := by
  have h2 : List.replicate k y ++ [y] = [y] ++ List.replicate k y := by rw [← List.replicate_succ']; rfl
  rw [List.replicate_succ', List.append_assoc, List.append_assoc]
  congr 1
  show [y] ++ (List.replicate k y ++ [y]) = _
  rw [← List.append_assoc, ← h2, List.append_assoc]; rfl
end S
-- deps: Sl Bs
/-! ## numbers of bits, further -/
namespace S
open PySem PySem.Spec PyProof.Rows L2
theorem twos_and (b : Bool) : ∀ bs : List Bool, twos (bs.map fun x => rAnd x b) = if b = true then twos bs else 0
  | [] => by cases b <;> rfl
  | [x] => by cases b <;> cases x <;> rfl
  | x :: y :: r => by
    have ih := twos_and b (y :: r)
    show b2n (rAnd x b) + 2 * twos ((y :: r).map fun x => rAnd x b) = _
    rw [ih]
    cases b
    · rw [if_neg Bool.false_ne_true, if_neg Bool.false_ne_true]; cases x <;> rfl
    · rw [if_pos rfl, if_pos rfl]
      show b2n (rAnd x true) + _ = b2n x + _
      cases x <;> rfl
theorem twos_rangeL {bs : List Bool} (h : bs ≠ []) : -(2 ^ (bs.length - 1) : Int) ≤ twos bs ∧ twos bs < 2 ^ (bs.length - 1) := by
  obtain ⟨A, y, rfl⟩ := one_last bs h
  have := twos_range A y
  simpa using this
theorem pow_up {p q : Nat} (h : p ≤ q) : (2 ^ p : Int) ≤ 2 ^ q := by
  have h1 : ((2 : Int) ^ p) = ((2 ^ p : Nat) : Int) := by simp
  have h2 : ((2 : Int) ^ q) = ((2 ^ q : Nat) : Int) := by simp
  rw [h1, h2]
  exact Int.ofNat_le.mpr (Nat.pow_le_pow_right (by decide) h)
theorem pow_lt {p : Nat} : (2 ^ p : Int) < 2 ^ (p + 1) := by
  have h1 : ((2 : Int) ^ p) = ((2 ^ p : Nat) : Int) := by simp
  have h2 : ((2 : Int) ^ (p + 1)) = ((2 ^ (p + 1) : Nat) : Int) := by simp
  have h3 : 0 < 2 ^ p := Nat.pow_pos (by decide)
  rw [h1, h2, Nat.pow_succ]; omega
/-- pairs of data with bitmaps told by rows -/
theorem paired_slf {α : Type} {K : Frag} {H : Hp} {n : Int} {S : List Int} {F : α → Int → Bool} : ∀ {as : List α} {ys : List V}, Paired (fun a y => ∃ x, y = .ref x ∧ Bs K H x n (F a) S) as ys → ∃ P : List Slf, ys = P.map vF ∧ P.map (·.2) = as.map F ∧ Bss K H n S P
  | _, _, .nil => ⟨[], rfl, rfl, fun _ z => nomatch z⟩
  | _, _, .cons (a := a) ⟨x, e, hb⟩ h => by
    obtain ⟨P, h1, h2, h3⟩ := paired_slf h
    refine ⟨(x, F a) :: P, by rw [e, h1]; rfl, by rw [List.map_cons, List.map_cons, h2], fun t ht => ?_⟩
    rcases List.mem_cons.mp ht with rfl | ht
    · exact hb
    · exact h3 t ht
/-- wide: one width less does not do -/
def Wd (len : Nat) (x : Int) : Prop := x < -(2 ^ (len - 2) : Int) ∨ (2 ^ (len - 2) : Int) ≤ x
theorem narrow_row {n : Int} {N T : List Sli} (h : Narrow N T) (hE : ∀ t ∈ T, Ends n t.2) (h1 : 1 < T.length) : ∃ z, 0 ≤ z ∧ z < n ∧ Wd T.length (numL (T.map (·.2)) z) := by
  obtain ⟨A, x, y, rfl⟩ := two_last T h1
  obtain ⟨z, hz, hd⟩ := diff_row x.2 y.2 (hE x (by simp)).1 (hE y (by simp)).1 (h.top A x y rfl)
  have hzr : 0 ≤ z ∧ z < n := by
    rcases hz with hz | hz
    · exact (hE x (by simp)).2 z hz
    · exact (hE y (by simp)).2 z hz
  refine ⟨z, hzr.1, hzr.2, ?_⟩
  have e : numL ((A ++ [x, y]).map (·.2)) z = twos (A.map (fun t => inB t.2 z) ++ [inB x.2 z, inB y.2 z]) := by
    unfold numL; rw [List.map_map, List.map_append]; rfl
  have e2 : (A ++ [x, y]).length - 2 = (A.map (fun t => inB t.2 z)).length := by simp
  unfold Wd
  rw [e, e2]
  exact twos_wide hd
/-- a number's bits -/
def bitI (v : Int) (p : Nat) : Bool := decide ((v / 2 ^ p) % 2 = 1)
def bitsI : Nat → Int → List Bool
  | 0, _ => []
  | w + 1, v => bitI v 0 :: bitsI w (v / 2)
theorem bitI_succ (v : Int) (p : Nat) : bitI v (p + 1) = bitI (v / 2) p := by
  unfold bitI
  rw [Int.ediv_ediv_of_nonneg (by decide), Int.pow_succ, Int.mul_comm]
theorem bitsI_len : ∀ (w : Nat) (v : Int), (bitsI w v).length = w
  | 0, _ => rfl
  | w + 1, v => by show (bitsI w (v / 2)).length + 1 = w + 1; rw [bitsI_len]
theorem bitsI_get : ∀ (w : Nat) (v : Int) (p : Nat), p < w → (bitsI w v)[p]? = some (bitI v p)
  | w + 1, v, 0, _ => rfl
  | w + 1, v, p + 1, h => by
    show (bitsI w (v / 2))[p]? = _
    rw [bitsI_get w (v / 2) p (by omega), bitI_succ]
theorem b2n_bit (v : Int) : b2n (bitI v 0) = v % 2 := by
  have e : (v / 2 ^ 0) % 2 = v % 2 := by rw [Int.pow_zero, Int.ediv_one]
  unfold b2n bitI
  rw [e]
  by_cases h : v % 2 = 1
  · rw [decide_eq_true h, if_pos rfl, h]
  · rw [decide_eq_false h, if_neg Bool.false_ne_true]; omega
theorem twos_bitsI : ∀ (w : Nat) (v : Int), -(2 ^ w : Int) ≤ v → v < 2 ^ w → twos (bitsI (w + 1) v) = v
  | 0, v, h0, h1 => by
    have h0 : -(1 : Int) ≤ v := h0
    have h1 : v < 1 := h1
    show -b2n (bitI v 0) = v
    rw [b2n_bit]; omega
  | w + 1, v, h0, h1 => by
    rw [Int.pow_succ] at h0 h1
    show b2n (bitI v 0) + 2 * twos (bitsI (w + 1) (v / 2)) = v
    rw [twos_bitsI w (v / 2) (by omega) (by omega), b2n_bit]; omega
/-- the bits of a number, its sign beyond -/
theorem twos_bit : ∀ (bs : List Bool) (p : Nat), bs ≠ [] → bitI (twos bs) p = (bs[min p (bs.length - 1)]?).getD false
  | [b], p, _ => by
    have e : min p ([b].length - 1) = 0 := by show min p 0 = 0; omega
    rw [e]
    show bitI (-b2n b) p = b
    cases b
    · show bitI (-0) p = false
      unfold bitI; simp
    · show bitI (-1) p = true
      unfold bitI
      have h2 : (2 : Int) ^ p = ((2 ^ p : Nat) : Int) := by simp
      have hp : 0 < 2 ^ p := Nat.pow_pos (by decide)
      have e3 : (-1 : Int) / 2 ^ p = -1 := by
        rw [h2]
        have := Int.ediv_emod_unique (a := -1) (b := ((2 ^ p : Nat) : Int)) (r := ((2 ^ p : Nat) : Int) - 1) (q := -1) (by omega)
        exact (this.mpr ⟨by omega, by omega, by omega⟩).1
      rw [e3]; rfl
  | b :: c :: r, 0, _ => by
    show bitI (b2n b + 2 * twos (c :: r)) 0 = b
    have e : b2n (bitI (b2n b + 2 * twos (c :: r)) 0) = b2n b := by
      rw [b2n_bit]
      cases b <;> simp [b2n] <;> omega
    cases b <;> cases h : bitI (b2n _ + 2 * twos (c :: r)) 0 <;> rw [h] at e <;> simp [b2n] at e ⊢
  | b :: c :: r, p + 1, _ => by
    show bitI (b2n b + 2 * twos (c :: r)) (p + 1) = _
    have e1 : (b2n b + 2 * twos (c :: r)) / 2 = twos (c :: r) := by cases b <;> simp [b2n] <;> omega
    rw [bitI_succ, e1, twos_bit (c :: r) p (by simp)]
    have e2 : min (p + 1) ((b :: c :: r).length - 1) = min p ((c :: r).length - 1) + 1 := by simp only [List.length_cons]; omega
    rw [e2]; rfl
end S
namespace S
open PySem PySem.Spec PyProof.Rows L2
def t_narrowed_b1 (K : Frag) (E : XK) : TS :=
    tDrop (dML K mPop (dVar 1) tNil)
def t_narrowed_2 (K : Frag) (E : XK) : TS :=
    tRet (dVar 1)
def t_narrowed_1 (K : Frag) (E : XK) : TS :=
    tSeq (dWhile (dAnd (dCmpT oGt (tCB (cLen K) (tCons (dVar 1) (tNil))) (tC (.int 1))) (dCmpT (oEqO K "Bitmap" (sp_Bitmapdd_eqdd K) E) (tOp (oIx K) (dVar 1) (tUn uNeg (tC (.int 1)))) (tOp (oIx K) (dVar 1) (tUn uNeg (tC (.int 2)))))) (t_narrowed_b1 K E))
    (stop (t_narrowed_2 K E))
def t_narrowed (K : Frag) (E : XK) : TS :=
    tSeq (tAsg (tCB (cList K) (tCons (dVar 0) (tNil))) (gName 1))
    (stop (t_narrowed_1 K E))
end S
-- fn: narrowed
-- law: k12
-- own: Eq=Bitmap
-- deps: Sl
namespace S
open PySem PySem.Spec PyProof.Rows L2
def sp_narrowed (K : Frag) : Sp := fun vs H Q _ => ∃ (p : Addr) (n : Int) (M : List Sli), vs = [.ref p] ∧ SqA K H p (M.map vB) ∧ M ≠ [] ∧ Bms K H n M ∧ M.length ≤ 1000000 ∧
  ∀ (q : Addr) (M' : List Sli) (H' : Hp), H q = none → Same H H' → H' q = some (.lst (M'.map vB)) → Narrow M M' → Q (.ref q) H'
theorem pure_narrowed {K : Frag} (vs : List V) (H : Hp) (Q : VK) (E : XK) (h : sp_narrowed K vs H Q E) : t_narrowed K E { nx := fun _ H' => Q .non H', rt := Q } (start ["slices", "kept"] vs) H := by
  obtain ⟨p, n, M, rfl, hp, hne, hb, hlen, q⟩ := h
  walk_at "gx"
  refine ⟨fun d nd => ?_⟩
  walk_at "gx"
  refine ⟨fun m σ H1 => ∃ M1 : List Sli, m = M1.length ∧ σ = [some (.ref p), some (.ref d)] ∧ Same H H1 ∧ H1 d = some (.lst (M1.map vB)) ∧ M1 ≠ [] ∧ (∃ r, M = M1 ++ r) ∧ (∀ row, numL (M1.map (·.2)) row = numL (M.map (·.2)) row),
    ⟨_, M, rfl, rfl, same_new nd, upd_same, hne, ⟨[], by simp⟩, fun _ => rfl⟩, ?_⟩
  rintro m σ H1 ⟨M1, rfl, rfl, e1, hd, hne1, ⟨r, hr⟩, hnum⟩
  walk_at "gx"
  rw [List.length_map]
  refine ifd (fun hl => ?_) (fun hl => ?_)
  · obtain ⟨A, x, y, rfl⟩ := two_last M1 (by omega)
    have hA : (A ++ [x, y]).map vB = (A.map vB ++ [vB x]) ++ [vB y] := by simp
    have hA2 : (A ++ [x, y]).map vB = A.map vB ++ [vB x, vB y] := by simp
    have a1 : atI ((A ++ [x, y]).map vB) (-1) = some (vB y) := by rw [hA]; exact atI_last
    have a2 : atI ((A ++ [x, y]).map vB) (-2) = some (vB x) := by rw [hA2]; exact atI_last2
    have mx : x ∈ M := by rw [hr]; simp
    have my : y ∈ M := by rw [hr]; simp
    have bx := (hb x mx).same e1
    have by' := (hb y my).same e1
    obtain ⟨_, _, _, dx, _, sx, _⟩ := id bx
    obtain ⟨_, _, _, dy, _, sy, _⟩ := id by'
    walk_at "gx"
    refine EqOr.own sy sx ⟨y.1, x.1, n, n, y.2, x.2, rfl, by', bx, ?_⟩
    refine ifd (fun he => ?_) (fun he => ?_)
    · walk_at "gx"
      · have e3 : ((A ++ [x, y]).map vB).dropLast = (A ++ [x]).map vB := by rw [hA, List.dropLast_concat]; simp
        rw [e3]
        refine ⟨(A ++ [x]).length, by simp, A ++ [x], rfl, rfl, Same.mut e1 nd, upd_same, by simp, ⟨y :: r, by rw [hr]; simp⟩, fun row => ?_⟩
        rw [← hnum row]
        unfold numL
        simp only [List.map_append, List.map_cons, List.map_nil]
        rw [he.2]
        exact (twos_dup _ _).symm
    · exact ⟨q d _ H1 nd e1 hd ⟨hne1, ⟨r, hr⟩, hnum, fun A' x' y' h => by
        have := List.append_inj' h rfl
        obtain ⟨_, h2⟩ := this
        simp only [List.cons.injEq, and_true] at h2
        obtain ⟨rfl, rfl⟩ := h2
        exact fun z => he ⟨rfl, z.symm⟩⟩⟩
  · exact ⟨q d _ H1 nd e1 hd ⟨hne1, ⟨r, hr⟩, hnum, fun A' x' y' h => by rw [h] at hl; simp at hl; omega⟩⟩
end S
namespace S
open PySem PySem.Spec PyProof.Rows L2
def t__law_draw_7 (K : Frag) (E : XK) : TS :=
    tRet (tOp oMod (tCB cInt (tCons (dVar 6) (tNil))) (dVar 2))
def t__law_draw_6 (K : Frag) (E : XK) : TS :=
    tSeq (tAsg (tOp oMod (tCB cInt (tCons (tOp oMulA (dVar 6) (dVar 6)) (tNil))) (tC (.int 999983))) (gName 6))
    (stop (t__law_draw_7 K E))
def t__law_draw_5 (K : Frag) (E : XK) : TS :=
    tSeq (tAsg (tOp oMod (tCB cInt (tCons (tOp (oAdd K) (tOp oMulA (dVar 6) (dVar 6)) (dVar 4)) (tNil))) (tC (.int 1000003))) (gName 6))
    (stop (t__law_draw_6 K E))
def t__law_draw_4 (K : Frag) (E : XK) : TS :=
    tSeq (tAsg (tOp oMod (tCB cInt (tCons (tOp (oAdd K) (tOp oMulA (dVar 4) (tOp (oAdd K) (tOp (oAdd K) (tC (.int 48271)) (tOp oMulA (tC (.int 7919)) (tOp (oIx K) (dVar 1) (tC (.int 1))))) (tOp oMulA (tC (.int 104729)) (tOp (oIx K) (dVar 1) (tC (.int 0)))))) (tOp oMulA (tC (.int 611953)) (tOp (oIx K) (dVar 1) (tC (.int 3))))) (tNil))) (tC (.int 2147483647))) (gName 6))
    (stop (t__law_draw_5 K E))
def t__law_draw_3 (K : Frag) (E : XK) : TS :=
    tSeq (dIfS (dCmpT (oEq K) (tOp (oIx K) (dVar 1) (tC (.int 3))) (tC (.int 2))) (tSeq (tAsg (tOp oFdiv (dVar 4) (tC (.int 1000))) (gSub (dVar 1) (tC (.int 2)) oSet))
    (tSeq (dIfS (dCmpT (oEq K) (tOp (oIx K) (dVar 1) (tC (.int 2))) (tC (.int 0))) (tAsg (tC (.int 0)) (gSub (dVar 1) (tC (.int 1)) oSet)) (tNext))
    (tSeq (tAsg (tOp oMod (tCB cInt (tCons (dVar 4) (tNil))) (tC (.int 1000))) (gName 5))
    (tRet (tOp oMod (tCB cInt (tCons (dVar 5) (tNil))) (dVar 2)))))) (tNext))
    (stop (t__law_draw_4 K E))
def t__law_draw_2 (K : Frag) (E : XK) : TS :=
    tSeq (tAsg (tCB cInt (tCons (tOp (oIx K) (dVar 1) (tC (.int 2))) (tNil))) (gName 4))
    (stop (t__law_draw_3 K E))
def t__law_draw_1 (K : Frag) (E : XK) : TS :=
    tSeq (tAsg (tOp oSub (tOp (oIx K) (dVar 1) (tC (.int 1))) (tC (.int 1))) (gSub (dVar 1) (tC (.int 1)) oSet))
    (stop (t__law_draw_2 K E))
def t__law_draw (K : Frag) (E : XK) : TS :=
    tSeq (dIfS (dCmpT (oEq K) (tOp (oIx K) (dVar 1) (tC (.int 1))) (tC (.int 0))) (tSeq (tAsg (tOp (oIx K) (dVar 1) (tC (.int 0))) (gName 3))
    (tSeq (tAsg (tOp (oAdd K) (dVar 3) (tC (.int 1))) (gSub (dVar 1) (tC (.int 0)) oSet))
    (tSeq (dIfS (dCmpT oGe (dVar 3) (tCB (cLen K) (tCons (dVar 0) (tNil)))) (tRet (tC (.int 0))) (tNext))
    (tSeq (tAsg (tCB cAbs (tCons (tOp (oIx K) (dVar 0) (dVar 3)) (tNil))) (gSub (dVar 1) (tC (.int 2)) oSet))
    (tSeq (tAsg (tCB cInt (tCons (tOp oLt (tOp (oIx K) (dVar 0) (dVar 3)) (tC (.int 0))) (tNil))) (gSub (dVar 1) (tC (.int 3)) oSet))
    (tSeq (tAsg (tC (.int 12)) (gSub (dVar 1) (tC (.int 1)) oSet))
    (dIfS (dCmpT oGe (tOp (oIx K) (dVar 1) (tC (.int 2))) (tOp oPow (tC (.int 10)) (tC (.int 18)))) (tSeq (tAsg (tC (.int 60)) (gSub (dVar 1) (tC (.int 1)) oSet))
    (tAsg (tC (.int 2)) (gSub (dVar 1) (tC (.int 3)) oSet))) (tNext)))))))) (tNext))
    (stop (t__law_draw_1 K E))
end S
-- fn: _law_draw
-- law: k03
-- deps: D0
namespace S
open PySem PySem.Spec PyProof.Rows L2
theorem pure__law_draw {K : Frag} (vs : List V) (H : Hp) (Q : VK) (E : XK) (h : sp__law_draw K vs H Q E) : t__law_draw K E { nx := fun _ H' => Q .non H', rt := Q } (start ["_law_script", "_law_state", "_law_base", "_law_here", "_law_number", "_law_digit", "_law_mixed"] vs) H := by
  obtain ⟨a, st, base, rfl, ⟨⟨ns, hscr⟩, l, hl, A, B, N, k, rfl, hA, hN, hd⟩, hb, q⟩ := h

  have hsl : ∀ H1, SameX st H H1 → SqL K H1 a (ns.map V.int) := fun H1 e => (hscr.x e).sl
  have fin : ∀ (x : Int) (l : List V) (H1 : Hp), SameX st H H1 → H1 st = some (.lst l) → DrawSt l → Q (.int (x % base)) H1 := fun x l H1 e h d =>
    q _ _ (Int.emod_nonneg _ (by omega)) (Int.emod_lt_of_pos _ hb) ⟨⟨ns, hscr.x e⟩, l, h, d⟩ e
  have tail : ∀ (A B N k : Int) (w : Option V) (H' : Hp), 0 ≤ A → 0 ≤ N → (k = 2 ∨ N < 10 ^ 18) → SameX st H H' → H' st = some (.lst [.int A, .int B, .int N, .int k]) →
      t__law_draw_1 K E { nx := fun _ H' => Q .non H', rt := Q } [some (.ref a), some (.ref st), some (.int base), w, none, none, none] H' := by
    intro A B N k w H' hA hN hk hs hl
    have h1000 : 0 ≤ N / 1000 := Int.ediv_nonneg hN (by decide)
    walk_at "gx"
    refine ifd (fun hk2 => ?_) (fun hk2 => ?_)
    · walk_at "gx"
      refine ifd (fun hz => ?_) (fun hz => ?_)
      · walk_at "gx"
        exact fin _ _ _ (hs.trans (SameX.upd.trans (SameX.upd.trans SameX.upd))) upd_same ⟨_, _, _, _, rfl, hA, h1000, .inl rfl⟩
      · walk_at "gx"
        exact fin _ _ _ (hs.trans (SameX.upd.trans SameX.upd)) upd_same ⟨_, _, _, _, rfl, hA, h1000, .inr (.inl hk2)⟩
    · have hN2 : N < 10 ^ 18 := by omega
      walk_at "gx"
      exact fin _ _ _ (hs.trans SameX.upd) upd_same ⟨_, _, _, _, rfl, hA, hN, .inr (.inr hN2)⟩
  walk_at "go"
  refine ifd (fun hB => ?_) (fun hB => ?_)
  · walk_at "go"
    rw [List.length_map]
    refine ifd (fun hlen => ?_) (fun hlen => ?_)
    · exact q 0 _ (Int.le_refl 0) hb ⟨⟨ns, hscr.x SameX.upd⟩, _, upd_same, _, _, _, _, rfl, by omega, hN, hd⟩ SameX.upd
    · obtain ⟨x, hx⟩ := at_ints (ns := ns) hA (by omega)
      walk_at "go"
      refine ifd (fun hbig => ?_) (fun hbig => ?_)
      · walk_at "go"
        exact ⟨tail _ _ _ _ _ _ (by omega) (by omega) (.inl rfl) (SameX.upd.trans (SameX.upd.trans (SameX.upd.trans (SameX.upd.trans (SameX.upd.trans SameX.upd))))) upd_same⟩
      · have hb2 : ¬ ((10 : Int) ^ 18 ≤ x.natAbs) := hbig
        exact ⟨tail _ _ _ _ _ _ (by omega) (by omega) (.inr (by omega)) (SameX.upd.trans (SameX.upd.trans (SameX.upd.trans SameX.upd))) upd_same⟩
  · exact ⟨tail A B N k _ H hA hN (by omega) (SameX.refl _ _) hl⟩
end S
namespace S
open PySem PySem.Spec PyProof.Rows L2
def t__law_wide_b1 (K : Frag) (E : XK) : TS :=
    tAsg (tOp (oAdd K) (tOp oMulA (dVar 3) (tC (.int 1000))) (dCall (sp__law_draw K) (EW E) (tCons (dVar 0) (tCons (dVar 1) (tCons (tC (.int 1000)) (tNil)))))) (gName 3)
def t__law_wide_2 (K : Frag) (E : XK) : TS :=
    tRet (tOp oMod (tCB cInt (tCons (dVar 3) (tNil))) (dVar 2))
def t__law_wide_1 (K : Frag) (E : XK) : TS :=
    tSeq (dFor (iRng (tCons (tC (.int 6)) (tNil))) (gName 4) (t__law_wide_b1 K E))
    (stop (t__law_wide_2 K E))
def t__law_wide (K : Frag) (E : XK) : TS :=
    tSeq (tAsg (tC (.int 0)) (gName 3))
    (stop (t__law_wide_1 K E))
end S
-- fn: _law_wide
-- law: k03
-- deps: D0
namespace S
open PySem PySem.Spec PyProof.Rows L2
def sp__law_wide (K : Frag) : Sp := fun vs H Q _ => ∃ (a st : Addr) (lim : Int), vs = [.ref a, .ref st, .int lim] ∧ Ctx K H a st ∧ 0 < lim ∧
  ∀ (r : Int) (H' : Hp), 0 ≤ r → r < lim → Ctx K H' a st → SameX st H H' → Q (.int r) H'
theorem pure__law_wide {K : Frag} (vs : List V) (H : Hp) (Q : VK) (E : XK) (h : sp__law_wide K vs H Q E) : t__law_wide K E { nx := fun _ H' => Q .non H', rt := Q } (start ["_law_script", "_law_state", "_law_limit", "_law_number", "_law_k"] vs) H := by
  obtain ⟨a, st, lim, rfl, hc, hl, q⟩ := h
  walk_at "gx"
  refine for_rng (fun i σ H1 => ∃ (n : Int) (k : Option V), σ = [some (.ref a), some (.ref st), some (.int lim), some (.int n), k] ∧ Ctx K H1 a st ∧ SameX st H H1) ⟨0, none, rfl, hc, SameX.refl _ _⟩ ?_ ?_
  · rintro i σ H1 hi ⟨n, k, rfl, c1, e1⟩
    walk_at "gx"
    refine ⟨a, st, _, rfl, c1, by decide, fun r H2 h0 h1 c2 e2 => ?_⟩
    exact ⟨_, _, rfl, c2, e1.trans e2⟩
  · rintro σ H1 ⟨n, k, rfl, c1, e1⟩
    walk_at "gx"
    exact q _ _ (Int.emod_nonneg _ (by omega)) (Int.emod_lt_of_pos _ hl) c1 e1
end S
namespace S
open PySem PySem.Spec PyProof.Rows L2
def t__law_ends_b1_5 (K : Frag) (E : XK) : TS :=
    tAsg (tOp (oAdd K) (dVar 5) (tC (.int 1))) (gName 5)
def t__law_ends_b1_4 (K : Frag) (E : XK) : TS :=
    tSeq (dIfS (dCmpT oLt (dVar 5) (dVar 2)) (tDrop (dML K mApp (dVar 4) (tCons (dVar 5) (tNil)))) (tNext))
    (stop (t__law_ends_b1_5 K E))
def t__law_ends_b1_3 (K : Frag) (E : XK) : TS :=
    tSeq (dIfS (dCmpT (oEq K) (dVar 7) (tC (.int 3))) (tAsg (tOp (oAdd K) (dVar 5) (dCall (sp__law_wide K) (EW E) (tCons (dVar 0) (tCons (dVar 1) (tCons (tOp (oAdd K) (dVar 2) (tC (.int 1))) (tNil)))))) (gName 5)) (tNext))
    (stop (t__law_ends_b1_4 K E))
def t__law_ends_b1_2 (K : Frag) (E : XK) : TS :=
    tSeq (dIfS (dCmpT (oEq K) (dVar 7) (tC (.int 2))) (tAsg (tOp (oAdd K) (dVar 5) (dCall (sp__law_wide K) (EW E) (tCons (dVar 0) (tCons (dVar 1) (tCons (tOp (oAdd K) (tOp oFdiv (dVar 2) (tC (.int 8))) (tC (.int 1))) (tNil)))))) (gName 5)) (tNext))
    (stop (t__law_ends_b1_3 K E))
def t__law_ends_b1_1 (K : Frag) (E : XK) : TS :=
    tSeq (dIfS (dCmpT (oEq K) (dVar 7) (tC (.int 1))) (tAsg (tOp (oAdd K) (dVar 5) (dCall (sp__law_draw K) (EW E) (tCons (dVar 0) (tCons (dVar 1) (tCons (tC (.int 4)) (tNil)))))) (gName 5)) (tNext))
    (stop (t__law_ends_b1_2 K E))
def t__law_ends_b1 (K : Frag) (E : XK) : TS :=
    tSeq (tAsg (dCall (sp__law_draw K) (EW E) (tCons (dVar 0) (tCons (dVar 1) (tCons (tC (.int 4)) (tNil))))) (gName 7))
    (stop (t__law_ends_b1_1 K E))
def t__law_ends_3 (K : Frag) (E : XK) : TS :=
    tRet (dVar 4)
def t__law_ends_2 (K : Frag) (E : XK) : TS :=
    tSeq (dFor (iRng (tCons (dCall (sp__law_draw K) (EW E) (tCons (dVar 0) (tCons (dVar 1) (tCons (tOp (oAdd K) (dVar 3) (tC (.int 1))) (tNil))))) (tNil))) (gName 6) (t__law_ends_b1 K E))
    (stop (t__law_ends_3 K E))
def t__law_ends_1 (K : Frag) (E : XK) : TS :=
    tSeq (tAsg (tC (.int 0)) (gName 5))
    (stop (t__law_ends_2 K E))
def t__law_ends (K : Frag) (E : XK) : TS :=
    tSeq (tAsg (dLst (tNil)) (gName 4))
    (stop (t__law_ends_1 K E))
end S
-- fn: _law_ends
-- law: k03
-- deps: D0 _law_wide
namespace S
open PySem PySem.Spec PyProof.Rows L2
/-- a new list of at most so many ends within the size -/
def sp__law_ends (K : Frag) : Sp := fun vs H Q _ => ∃ (a st : Addr) (size most : Int), vs = [.ref a, .ref st, .int size, .int most] ∧ Ctx K H a st ∧ 0 ≤ size ∧ size ≤ 10 ^ 18 ∧ 0 ≤ most ∧ most ≤ 1000 ∧
  ∀ (p : Addr) (ns : List Int) (H' : Hp), H p = none → H' p = some (.lst (ns.map V.int)) → Ends size ns → (ns.length : Int) ≤ most → Ctx K H' a st → SameX st H H' → Q (.ref p) H'
def inv__law_ends (K : Frag) (H : Hp) (a st p : Addr) (size most : Int) (i : Nat) (σ : L2.St) (H2 : Hp) : Prop := ∃ (at_ : Int) (ns : List Int) (k kd : Option V),
  σ = [some (.ref a), some (.ref st), some (.int size), some (.int most), some (.ref p), some (.int at_), k, kd] ∧
  H2 p = some (.lst (ns.map V.int)) ∧ Ends size ns ∧ (∀ x ∈ ns, x < at_) ∧ 0 ≤ at_ ∧ ns.length ≤ i ∧ Ctx K H2 a st ∧ SameX st H H2
theorem pure__law_ends {K : Frag} (vs : List V) (H : Hp) (Q : VK) (E : XK) (h : sp__law_ends K vs H Q E) : t__law_ends K E { nx := fun _ H' => Q .non H', rt := Q } (start ["_law_script", "_law_state", "_law_size_here", "_law_most", "_law_ends_here", "_law_at", "_law_k", "_law_kind"] vs) H := by
  obtain ⟨a, st, size, most, rfl, hc, hs0, hs1, hm0, hm1, q⟩ := h
  walk_at "gx"
  refine ⟨fun p hp => ?_⟩
  have cp : Ctx K (upd H p (.lst [])) a st := hc.mut hc hp
  walk_at "gx"
  refine ⟨a, st, _, rfl, cp, show 0 < most + 1 by omega, fun cnt H1 h0 h1 c1 e1 => ?_⟩
  have h1' : cnt < most + 1 := h1
  have npst : p ≠ st := by
    obtain ⟨_, l, hl, _⟩ := hc
    exact (ne_of_none hl hp).symm
  have hp1 : H1 p = some (.lst []) := e1 _ _ upd_same npst
  have e0 : SameX st H H1 := fun b o hb n => e1 b o (by rw [upd_ne (ne_of_none hb hp)]; exact hb) n
  walk_at "gx"
  refine for_rng (inv__law_ends K H a st p size most) ⟨0, [], none, none, rfl, hp1, ⟨.nil, fun _ z => nomatch z⟩, fun _ z => (nomatch z), Int.le_refl _, Nat.le_refl _, c1, e0⟩ ?_ ?_
  · rintro i σ H2 hi ⟨at_, ns, k, kd, rfl, hl, hE, hb, h0, hlen, c2, e2⟩
    walk_at "gx"
    refine ⟨a, st, _, rfl, c2, by decide, fun kind H3 k0 k1 c3 e3 => ?_⟩
    have hl3 : H3 p = some (.lst (ns.map V.int)) := e3 _ _ hl npst
    -- behind the three ifs: at_ has grown
    have tail : ∀ (D : L2.Ends) (at2 : Int) (H4 : Hp), (∀ σ H', inv__law_ends K H a st p size most (i + 1) σ H' → D.nx σ H') → at_ ≤ at2 → H4 p = some (.lst (ns.map V.int)) → Ctx K H4 a st → SameX st H H4 →
        t__law_ends_b1_4 K E D [some (.ref a), some (.ref st), some (.int size), some (.int most), some (.ref p), some (.int at2), some (.int i), some (.int kind)] H4 := by
      intro D at2 H4 hD hge hl4 c4 e4
      walk_at "gx"
      refine ifd (fun hlt => ?_) (fun hlt => ?_)
      · walk_at "gx"
        refine hD _ _ ⟨at2 + 1, ns ++ [at2], _, _, rfl, by rw [List.map_append]; exact upd_same, hE.snoc (fun x hx => Int.lt_of_lt_of_le (hb x hx) hge) (by omega) hlt, fun x hx => ?_, by omega, by rw [List.length_append]; show ns.length + 1 ≤ i + 1; omega, c4.mut hc hp, e4.mut hp⟩
        rcases List.mem_append.mp hx with hx | hx
        · have := hb x hx; omega
        · rw [List.mem_singleton.mp hx]; omega
      · walk_at "gx"
        exact hD _ _ ⟨at2 + 1, ns, _, _, rfl, hl4, hE, fun x hx => by have := hb x hx; omega, by omega, by omega, c4, e4⟩
    walk_at "gx"
    refine ifd (fun hk => ?_) (fun hk => ?_)
    · walk_at "gx"
      refine ⟨a, st, _, rfl, c3, by decide, fun d H4 d0 d1 c4 e4 => ?_⟩
      walk_at "gx"
      refine iff' (by omega) ?_
      walk_at "gx"
      refine iff' (by omega) ?_
      exact ⟨tail _ (at_ + d) H4 (fun _ _ z => z) (by omega) (e4 _ _ hl3 npst) c4 ((e2.trans e3).trans e4)⟩
    walk_at "gx"
    refine ifd (fun hk => ?_) (fun hk => ?_)
    · walk_at "gx"
      refine ⟨a, st, _, rfl, c3, show 0 < size / 8 + 1 by omega, fun d H4 d0 d1 c4 e4 => ?_⟩
      walk_at "gx"
      refine iff' (by omega) ?_
      exact ⟨tail _ (at_ + d) H4 (fun _ _ z => z) (by omega) (e4 _ _ hl3 npst) c4 ((e2.trans e3).trans e4)⟩
    walk_at "gx"
    refine ifd (fun hk => ?_) (fun hk => ?_)
    · walk_at "gx"
      refine ⟨a, st, _, rfl, c3, show 0 < size + 1 by omega, fun d H4 d0 d1 c4 e4 => ?_⟩
      exact ⟨tail _ (at_ + d) H4 (fun _ _ z => z) (by omega) (e4 _ _ hl3 npst) c4 ((e2.trans e3).trans e4)⟩
    · exact ⟨tail _ at_ H3 (fun _ _ z => z) (Int.le_refl _) hl3 c3 (e2.trans e3)⟩
  · rintro σ H2 ⟨at_, ns, k, kd, rfl, hl, hE, hb, h0, hlen, c2, e2⟩
    walk_at "gx"
    exact q p ns H2 hp hl hE (by omega) c2 e2
end S
namespace S
open PySem PySem.Spec PyProof.Rows L2
def t__law_places_b1 (K : Frag) (E : XK) : TS :=
    dIfS (dAnd (dCmpT (oEq K) (dCall (sp__law_draw K) (EW E) (tCons (dVar 0) (tCons (dVar 1) (tCons (tC (.int 4)) (tNil))))) (tC (.int 1))) (dCmpT oGt (dVar 6) (tC (.int 0)))) (tDrop (dML K mApp (dVar 5) (tCons (tCB (cList K) (tCons (tOp (oIx K) (dVar 5) (tOp oSub (dVar 6) (tC (.int 1)))) (tNil))) (tNil)))) (tDrop (dML K mApp (dVar 5) (tCons (dCall (sp__law_ends K) (EW E) (tCons (dVar 0) (tCons (dVar 1) (tCons (dVar 2) (tCons (dVar 3) (tNil)))))) (tNil))))
def t__law_places_2 (K : Frag) (E : XK) : TS :=
    tRet (dVar 5)
def t__law_places_1 (K : Frag) (E : XK) : TS :=
    tSeq (dFor (iRng (tCons (tOp (oAdd K) (tC (.int 1)) (dCall (sp__law_draw K) (EW E) (tCons (dVar 0) (tCons (dVar 1) (tCons (dVar 4) (tNil)))))) (tNil))) (gName 6) (t__law_places_b1 K E))
    (stop (t__law_places_2 K E))
def t__law_places (K : Frag) (E : XK) : TS :=
    tSeq (tAsg (dLst (tNil)) (gName 5))
    (stop (t__law_places_1 K E))
end S
-- fn: _law_places
-- law: k12
-- deps: Sl _law_draw _law_ends
namespace S
open PySem PySem.Spec PyProof.Rows L2
/-- new lists of ends -/
def sp__law_places (K : Frag) : Sp := fun vs H Q _ => ∃ (a st : Addr) (n most cnt : Int), vs = [.ref a, .ref st, .int n, .int most, .int cnt] ∧ Ctx K H a st ∧ 0 ≤ n ∧ n ≤ 10 ^ 18 ∧ 0 ≤ most ∧ most ≤ 1000 ∧ 0 < cnt ∧ cnt ≤ 100 ∧
  ∀ (p : Addr) (M : List Sli) (H' : Hp), H p = none → H' p = some (.lst (M.map vB)) → Lss H' n most.toNat M → (∀ t ∈ M, H t.1 = none ∧ t.1 ≠ p) → M ≠ [] → (M.length : Int) ≤ cnt → Ctx K H' a st → SameX st H H' → Q (.ref p) H'
theorem SameX.none {st : Addr} {H H' : Hp} {p : Addr} (e : SameX st H H') (h : H' p = none) (n : p ≠ st) : H p = none := by
  cases x : H p with
  | none => rfl
  | some o => rw [e _ _ x n] at h; cases h
theorem same_none {H H' : Hp} {p : Addr} (e : Same H H') (h : H' p = none) : H p = none := by
  cases x : H p with
  | none => rfl
  | some o => rw [e _ _ x] at h; cases h
def t__law_places_b1e (K : Frag) (E : XK) : TS :=
    tDrop (dML K mApp (dVar 5) (tCons (dCall (sp__law_ends K) (EW E) (tCons (dVar 0) (tCons (dVar 1) (tCons (dVar 2) (tCons (dVar 3) (tNil)))))) (tNil)))
def inv__law_places (K : Frag) (H : Hp) (a st p : Addr) (n most cnt : Int) (i : Nat) (σ : L2.St) (H2 : Hp) : Prop := ∃ (M : List Sli) (k : Option V), M.length = i ∧ σ = [some (.ref a), some (.ref st), some (.int n), some (.int most), some (.int cnt), some (.ref p), k] ∧ H2 p = some (.lst (M.map vB)) ∧ Lss H2 n most.toNat M ∧ (∀ t ∈ M, H t.1 = none ∧ t.1 ≠ p ∧ t.1 ≠ st) ∧ Ctx K H2 a st ∧ SameX st H H2
theorem pure__law_places {K : Frag} (vs : List V) (H : Hp) (Q : VK) (E : XK) (h : sp__law_places K vs H Q E) : t__law_places K E { nx := fun _ H' => Q .non H', rt := Q } (start ["_law_script", "_law_state", "_law_size_here", "_law_most", "_law_count", "_law_lists", "_law_k"] vs) H := by
  obtain ⟨a, st, n, most, cnt, rfl, hc, n0, n1, m0, m1, c0, c1, q⟩ := h
  walk_at "gx"
  refine ⟨fun p hp => ?_⟩
  have e0 : Same H (upd H p (.lst [])) := same_new hp
  have pst : p ≠ st := ctx_ne hc hp
  walk_at "gx"
  refine ⟨a, st, _, rfl, hc.same e0, c0, fun r H1 r0 r1 cx1 e1 => ?_⟩
  have r1' : r < cnt := r1
  have hp1 := e1 _ _ (upd_same : upd H p (.lst []) p = _) pst
  walk_at "gx"
  refine for_rng (inv__law_places K H a st p n most cnt) ⟨[], none, rfl, rfl, hp1, fun _ z => (nomatch z), fun _ z => (nomatch z), cx1, Same.thenX e0 e1⟩ ?_ ?_
  · rintro i σ H2 hi ⟨M, k, hM, rfl, hp2, hL, hf, cx2, e2⟩
    have go : ∀ (x : Addr) (H3 : Hp) (es : List Int), H2 x = none → SameX st H2 H3 → Ctx K H3 a st → H3 x = some (.lst (es.map V.int)) → Ends n es → es.length ≤ most.toNat → ∀ k : Option V,
        inv__law_places K H a st p n most cnt (i + 1) [some (V.ref a), some (.ref st), some (.int n), some (.int most), some (.int cnt), some (.ref p), k] (L2.upd H3 p (.lst (M.map vB ++ [V.ref x]))) := by
      intro x H3 es nx e3 cx3 hx hE hl k
      have xst : x ≠ st := ctx_ne cx2 nx
      have xp : x ≠ p := (ne_of_none hp2 nx).symm
      have hu : SameX p H3 (L2.upd H3 p (.lst (M.map vB ++ [V.ref x]))) := SameX.upd
      refine ⟨M ++ [(x, es)], k, by simp [hM], rfl, by rw [upd_same, List.map_append]; rfl, fun t ht => ?_, fun t ht => ?_, cx3.mut hc hp, fun b o hb hn => hu _ _ (e3 _ _ (e2 _ _ hb hn) hn) (ne_of_none hb hp)⟩
      · rcases List.mem_append.mp ht with ht | ht
        · obtain ⟨a1, a2, a3⟩ := hL t ht
          obtain ⟨_, b1, b2⟩ := hf t ht
          exact ⟨hu _ _ (e3 _ _ a1 b2) b1, a2, a3⟩
        · rw [List.mem_singleton.mp ht]
          exact ⟨hu _ _ hx xp, hE, hl⟩
      · rcases List.mem_append.mp ht with ht | ht
        · exact hf t ht
        · rw [List.mem_singleton.mp ht]
          exact ⟨e2.none nx xst, xp, xst⟩
    have ends : ∀ (H3 : Hp) (k : Option V) (D : L2.Ends), SameX st H2 H3 → Ctx K H3 a st → (∀ σ' H', inv__law_places K H a st p n most cnt (i + 1) σ' H' → D.nx σ' H') →
        t__law_places_b1e K E D [some (V.ref a), some (.ref st), some (.int n), some (.int most), some (.int cnt), some (.ref p), k] H3 := by
      intro H3 k D e3 cx3 kk
      have hp3 := e3 _ _ hp2 pst
      unfold t__law_places_b1e
      walk_at "gx"
      refine ⟨a, st, n, most, rfl, cx3, n0, n1, m0, m1, fun x es H4 nx hx hE hl cx4 e4 => ?_⟩
      have hp4 := e4 _ _ hp3 pst
      walk_at "gx"
      exact kk _ _ (go x H4 es (e3.none nx (ctx_ne cx3 nx)) (e3.trans e4) cx4 hx hE (by omega) k)
    walk_at "gx"
    refine ⟨a, st, _, rfl, cx2, by decide, fun kd H3 _ _ cx3 e3 => ?_⟩
    have hp3 := e3 _ _ hp2 pst
    walk_at "gx"
    refine ifd (fun h1 => ?_) (fun h1 => ?_)
    · walk_at "gx"
      refine ifd (fun h2 => ?_) (fun h2 => ?_)
      · have hj : (i - 1) < M.length := by omega
        have hg : M[i - 1]? = some M[i - 1] := List.getElem?_eq_getElem hj
        have hm := List.getElem_mem hj
        generalize M[i - 1] = t at *
        obtain ⟨a1, a2, a3⟩ := hL t hm
        have b1 := e3 _ _ a1 (hf t hm).2.2
        have ha : atI (M.map vB) ((i : Int) - 1) = some (.ref t.1) := by
          rw [show (i : Int) - 1 = ((i - 1 : Nat) : Int) by omega]
          exact atI_nat (by rw [List.getElem?_map, hg]; rfl)
        walk_at "gx"
        refine ⟨fun x nx => ?_⟩
        have e4 := same_new (o := .lst (t.2.map V.int)) nx
        have hp4 := e4 _ _ hp3
        walk_at "gx"
        exact go x _ t.2 (e3.none nx (ctx_ne cx3 nx)) (e3.then e4) (cx3.same e4) upd_same a2 a3 _
      · exact ends H3 _ _ e3 cx3 fun σ' H' z => z
    · exact ends H3 _ _ e3 cx3 fun σ' H' z => z
  · rintro σ H2 ⟨M, k, hM, rfl, hp2, hL, hf, cx2, e2⟩
    refine ⟨q p M H2 hp hp2 hL (fun t ht => ⟨(hf t ht).1, (hf t ht).2.1⟩) (fun z => ?_) (by omega) cx2 e2⟩
    rw [z] at hM
    have hM : (0 : Nat) = (1 + r).toNat := hM
    omega
end S
namespace S
open PySem PySem.Spec PyProof.Rows L2
def t_Columndd_initdd_b1 (K : Frag) (E : XK) : TS :=
    dIfS (dCmpT (oNe K) (dAt K "size" (dVar 3)) (dAt K "size" (dVar 1))) (dGivS (ExF K "SizesDiffer" ["SliceError"]) (dRaise K "SizesDiffer" (WD E))) (tNext)
def t_Columndd_initdd_5 (K : Frag) (E : XK) : TS :=
    dSto K "width" (tCB (cLen K) (tCons (dAt K "slices" (dVar 0)) (tNil))) (dVar 0)
def t_Columndd_initdd_4 (K : Frag) (E : XK) : TS :=
    tSeq (dSto K "slices" (tCB (cTuple K) (tCons (dCall (sp_narrowed K) (EW E) (tCons (dLc (iSeq K (dVar 2)) (gName 3) (tYes) (tOp (oOwn K "Bitmap" (sp_Bitmapdd_anddd K) E0 oAnd) (dVar 3) (dVar 1)) [3]) (tNil))) (tNil))) (dVar 0))
    (stop (t_Columndd_initdd_5 K E))
def t_Columndd_initdd_3 (K : Frag) (E : XK) : TS :=
    tSeq (dSto K "presence" (dVar 1) (dVar 0))
    (stop (t_Columndd_initdd_4 K E))
def t_Columndd_initdd_2 (K : Frag) (E : XK) : TS :=
    tSeq (dSto K "size" (dAt K "size" (dVar 1)) (dVar 0))
    (stop (t_Columndd_initdd_3 K E))
def t_Columndd_initdd_1 (K : Frag) (E : XK) : TS :=
    tSeq (dFor (iSeq K (dVar 2)) (gName 3) (t_Columndd_initdd_b1 K E))
    (stop (t_Columndd_initdd_2 K E))
def t_Columndd_initdd (K : Frag) (E : XK) : TS :=
    tSeq (dIfS (dCmpT (oEq K) (tCB (cLen K) (tCons (dVar 2) (tNil))) (tC (.int 0))) (dGivS (ExF K "BadColumn" ["SliceError"]) (dRaise K "BadColumn" (WD E))) (tNext))
    (stop (t_Columndd_initdd_1 K E))
end S
-- fn: Column.__init__
-- law: k15
-- own: BitAnd=Bitmap
-- deps: Tw narrowed Bs Lc Bitmap_init _law_places
namespace S
open PySem PySem.Spec PyProof.Rows L2
abbrev CmF (K : Frag) : Prop := CF K "Column" ["presence", "size", "slices", "width"]
/-- a column: the value of each row, its slices the fewest -/
def Cm (K : Frag) (H : Hp) (a : Addr) (n : Int) (vf : Int → Option Int) (S : List Int) : Prop := CmF K ∧ 0 ≤ n ∧ Kn S ∧ ∃ (dx p q : Addr) (M : List Slf), SlX.Slt H a (He.ga K "Column") dx [some (.ref p), some (.int n), some (.ref q), some (.int (M.length : Nat))] ∧
  Bs K H p n (fun r => (vf r).isSome) S ∧ SqT K H q (M.map vF) ∧ Bss K H n S M ∧ M ≠ [] ∧ M.length ≤ 1000 ∧ (∀ row, 0 ≤ row → row < n → twos (bitsF M row) = (vf row).getD 0) ∧ (1 < M.length → ∃ row, 0 ≤ row ∧ row < n ∧ Wd M.length ((vf row).getD 0))
theorem Cm.same {K : Frag} {H H' : Hp} {a : Addr} {n : Int} {vf : Int → Option Int} {S : List Int} (h : Cm K H a n vf S) (e : Same H H') : Cm K H' a n vf S := by
  obtain ⟨c, n0, kn, dx, p, q, M, h1, h2, h3, h4, h5, h6, h7, h8⟩ := h
  exact ⟨c, n0, kn, dx, p, q, M, Same.slt e h1, h2.same e, Same.tup e h3, h4.same e, h5, h6, h7, h8⟩
def colF (pf : Int → Bool) (M : List Slf) : Int → Option Int := fun row => if pf row = true then some (twos (bitsF M row)) else none
def sp_Columndd_initdd (K : Frag) : Sp := fun vs H Q E => ∃ (x p q : Addr), vs = [.ref x, .ref p, .ref q] ∧ CmF K ∧ ((∃ (H0 : Hp) (dx : Addr) (n : Int) (pf : Int → Bool) (M : List Slf) (S : List Int), H0 x = none ∧ H0 dx = none ∧ Same H0 H ∧ H x = some (.ins (He.ga K "Column") dx []) ∧ H dx = some (.own x) ∧ dx ≠ x ∧
  Bs K H0 p n pf S ∧ SqA K H0 q (M.map vF) ∧ Bss K H0 n S M ∧ M.length ≤ 1000 ∧ Kn S ∧ 0 ≤ n ∧ (M ≠ [] → ∀ H', Same H0 H' → Cm K H' x n (colF pf M) S → Q .non H') ∧ (M = [] → XF K "BadColumn" → E (.ref (He.ga K "BadColumn")) none H)) ∨
  ∃ (n : Int) (ep : List Int) (Z : List (Addr × Int × List Int)), Bm K H p n ep ∧ SqA K H q (Z.map fun t => V.ref t.1) ∧ (∀ t ∈ Z, Bm K H t.1 t.2.1 t.2.2) ∧ (∃ t ∈ Z, t.2.1 ≠ n) ∧ (XF K "SizesDiffer" → E (.ref (He.ga K "SizesDiffer")) none H))
theorem same_o {x dx : Addr} {H0 H H' : Hp} (e : Same H0 H) (h1 : H0 x = none) (h2 : H0 dx = none) (o : SameO x dx H H') : Same H0 H' := fun b u h => o b u (e b u h) (ne_of_none h h1) (ne_of_none h h2)
theorem paired_slfG {α : Type} {K : Frag} {H : Hp} {n : Int} {S : List Int} {G : Addr → Prop} {F : α → Int → Bool} : ∀ {as : List α} {ys : List V}, Paired (fun a y => ∃ x, y = .ref x ∧ G x ∧ Bs K H x n (F a) S) as ys → ∃ P : List Slf, ys = P.map vF ∧ P.map (·.2) = as.map F ∧ Bss K H n S P ∧ ∀ t ∈ P, G t.1
  | _, _, .nil => ⟨[], rfl, rfl, (fun _ z => nomatch z), fun _ z => nomatch z⟩
  | _, _, .cons (a := a) ⟨x, e, hg, hb⟩ h => by
    obtain ⟨P, h1, h2, h3, h4⟩ := paired_slfG h
    refine ⟨(x, F a) :: P, by rw [e, h1]; rfl, by rw [List.map_cons, List.map_cons, h2], fun t ht => ?_, fun t ht => ?_⟩
    · rcases List.mem_cons.mp ht with rfl | ht
      · exact hb
      · exact h3 t ht
    · rcases List.mem_cons.mp ht with rfl | ht
      · exact hg
      · exact h4 t ht
/-- a later store of a slot changes the object alone -/
theorem slH_x {H : Hp} {x C dx : Addr} {vs ws : List (Option V)} (h : SlX.Slt H x C dx vs) (ne : vs ≠ []) : SameX x H (SlX.slH H x C dx ws) := fun b o hb hn => by
  rcases h with ⟨_, z⟩ | ⟨_, z⟩
  · exact absurd z ne
  · by_cases hd : b = dx
    · subst hd
      rw [hb] at z
      cases z
      unfold SlX.slH
      rw [upd_ne hn, upd_same]
    · rw [SlX.slH_ne hn hd]; exact hb
theorem Bm.slx {K : Frag} {H H' : Hp} {a x C dx : Addr} {n : Int} {es : List Int} {vs : List (Option V)} (h : Bm K H a n es) (hx : SlX.Slt H x C dx vs) (ne : vs ≠ []) (hax : a ≠ x) (e : SameX x H H') : Bm K H' a n es := by
  obtain ⟨c, h0, hE, da, p, h1, h2⟩ := h
  have hx2 : H x = some (SlX.SlO x C dx vs) := by
    rcases hx with ⟨_, z⟩ | ⟨z, _⟩
    · exact absurd z ne
    · exact z
  refine ⟨c, h0, hE, da, p, ?_, ?_⟩
  · rcases h1 with ⟨_, z⟩ | ⟨h1, z⟩
    · cases z
    · exact .inr ⟨e _ _ h1 hax, e _ _ z (ne_of z hx2 (fun q => by unfold SlX.SlO at q; cases q))⟩
  · rcases h2 with (h2 | ⟨o, h2⟩) | h2
    · exact .inl (.inl (e _ _ h2 (ne_of h2 hx2 (fun q => slO_tup q.symm))))
    · exact .inl (.inr ⟨o, e _ _ h2 (ne_of h2 hx2 (fun q => slO_frz q.symm))⟩)
    · exact .inr h2
theorem pure_Columndd_initdd {K : Frag} (vs : List V) (H : Hp) (Q : VK) (E : XK) (h : sp_Columndd_initdd K vs H Q E) : t_Columndd_initdd K E { nx := fun _ H' => Q .non H', rt := Q } (start ["self", "presence", "slices", "bitmap"] vs) H := by
  obtain ⟨x, p, q, rfl, cf, ⟨H0, dx, n, pf, M, S, nx, ndx, e0, hx, hdx, hne, hp0, hq0, hM0, lM, kn, n0, good, bad⟩ | ⟨n, ep, Z, hp, hq, hZ, ⟨t0, ht0, hn0⟩, bad⟩⟩ := h
  case inr =>
    obtain ⟨cb, _, _, dxp, up, slp, hup⟩ := id hp
    walk_at "gx"
    rw [List.length_map]
    refine ifd (fun h => ?_) (fun h => ?_)
    · have h : (Z.length : Int) = 0 := h
      have hZ0 : Z = [] := List.eq_nil_of_length_eq_zero (by omega)
      rw [hZ0] at ht0
      exact nomatch ht0
    walk_at "gx"
    refine for_seq (fun i σ H1 => H1 = H ∧ ∃ k : Option V, σ = [some (.ref x), some (.ref p), some (.ref q), k] ∧ ∀ t ∈ Z.take i, t.2.1 = n) hq ⟨rfl, none, rfl, fun _ z => by simp at z⟩ (fun i σ H' _ z => by rw [z.1]; exact Same.stay (Same.refl _)) ?_ ?_
    · rintro i v σ H1 hi ⟨rfl, k, rfl, hall⟩
      rw [List.getElem?_map] at hi
      cases hj : Z[i]? with
      | none => rw [hj] at hi; cases hi
      | some t =>
      rw [hj] at hi
      cases hi
      obtain ⟨_, _, _, dxt, ut, slt, hut⟩ := hZ t (List.mem_of_getElem? hj)
      walk_at "gx"
      refine Atr.sl cb slt (i := 1) rfl rfl ?_
      walk_at "gx"
      refine Atr.sl cb slp (i := 1) rfl rfl ?_
      refine ifn (fun h2 => ?_) (fun h2 => ?_)
      · exact fun xf => bad xf
      · have h2 : t.2.1 = n := h2
        refine ⟨rfl, _, rfl, fun u hu => ?_⟩
        rw [List.take_succ, hj] at hu
        rcases List.mem_append.mp hu with hu | hu
        · exact hall u hu
        · rw [List.mem_singleton.mp hu]; exact h2
    · rintro σ H1 ⟨rfl, k, rfl, hall⟩
      rw [List.length_map, List.take_length] at hall
      exact absurd (hall t0 ht0) hn0
  have hq := Same.sqa e0 hq0
  have hp := hp0.same e0
  have hM := hM0.same e0
  obtain ⟨esp, ⟨cb, _, _, dxp, up, slp, hup⟩, _⟩ := id hp
  walk_at "gx"
  rw [List.length_map]
  refine ifd (fun h => ?_) (fun h => ?_)
  · have hM : M = [] := List.eq_nil_of_length_eq_zero (by omega)
    exact fun xf => bad hM xf
  have neM : M ≠ [] := fun z => h (by rw [z]; rfl)
  walk_at "gx"
  refine for_seq (fun i σ H1 => H1 = H ∧ ∃ k : Option V, σ = [some (.ref x), some (.ref p), some (.ref q), k]) hq ⟨rfl, none, rfl⟩ (fun i σ H' _ z => by rw [z.1]; exact Same.stay (Same.refl _)) ?_ ?_
  · rintro i v σ H1 hi ⟨rfl, k, rfl⟩
    obtain ⟨t, ht, rfl⟩ := map_get hi
    obtain ⟨es, ⟨_, _, _, dxt, ut, slt, hut⟩, _⟩ := hM t (List.mem_of_getElem? ht)
    walk_at "gx"
    refine Atr.sl cb slt (i := 1) rfl rfl ?_
    walk_at "gx"
    refine Atr.sl cb slp (i := 1) rfl rfl ?_
    refine ifnf rfl ?_
    exact ⟨rfl, _, rfl⟩
  rintro σ H1 ⟨rfl, k, rfl⟩
  walk_at "gx"
  refine Atr.sl cb slp (i := 1) rfl rfl ?_
  walk_at "gx"
  have s0 : SlX.Slt H1 x (He.ga K "Column") dx [] := .inl ⟨hx, rfl⟩
  refine Sto.sl cf s0 (i := 1) rfl ?_
  have e1 : Same H0 (SlX.slH H1 x (He.ga K "Column") dx (SlX.putS 1 (.int n) [])) := same_o e0 nx ndx SameO.slH
  have s1 : SlX.Slt (SlX.slH H1 x (He.ga K "Column") dx (SlX.putS 1 (.int n) [])) x (He.ga K "Column") dx [none, some (.int n)] := SlX.slH_slt hne
  refine ⟨?_⟩
  generalize SlX.slH H1 x (He.ga K "Column") dx (SlX.putS 1 (.int n) []) = H2 at *
  walk_at "gx"
  refine Sto.sl cf s1 (i := 0) rfl ?_
  have e2 : Same H0 (SlX.slH H2 x (He.ga K "Column") dx (SlX.putS 0 (.ref p) [none, some (.int n)])) := same_o e1 nx ndx SameO.slH
  have s2 : SlX.Slt (SlX.slH H2 x (He.ga K "Column") dx (SlX.putS 0 (.ref p) [none, some (.int n)])) x (He.ga K "Column") dx [some (.ref p), some (.int n)] := SlX.slH_slt hne
  refine ⟨?_⟩
  generalize SlX.slH H2 x (He.ga K "Column") dx (SlX.putS 0 (.ref p) [none, some (.int n)]) = H3 at *
  have hq3 := Same.sqa e2 hq0
  walk_at "gx"
  have hp3 := hp0.same e2
  have hM3 := hM0.same e2
  have hx3 : ∃ o, H3 x = some o := by
    rcases s2 with ⟨h, _⟩ | ⟨h, _⟩ <;> exact ⟨_, h⟩
  obtain ⟨ox3, hx3⟩ := hx3
  refine lc_dat M vF (fun D t z H => ∃ y, z = .ref y ∧ y ≠ x ∧ Bs K H y n (fun row => rAnd (t.2 row) (pf row)) S) hq3 (by rw [sizeLine_eq]; omega) ?_ ?_ ?_
  · rintro D t z H5 H6 l hD ⟨y, rfl, hyx, hb⟩ e
    exact ⟨y, rfl, hyx, hb.x e hD⟩
  · intro D l j t H5 A nD hD hj e5 hA
    refine ⟨rfl, ?_⟩
    walk_at "gx"
    exact bs_and kn ((hM3 t (List.mem_of_getElem? hj)).same e5) (hp3.same e5) fun z H6 e6 nz bz => hA _ _ e6 ⟨z, rfl, (ne_of_none (e5 _ _ hx3) nz).symm, bz⟩
  intro D ys H5 nD hD hP e5
  obtain ⟨P, rfl, eP, bP, xP⟩ := paired_slfG (G := fun y => y ≠ x) (F := fun (t : Slf) row => rAnd (t.2 row) (pf row)) hP
  have lP : P.length = M.length := by have := congrArg List.length eP; simpa using this
  have valP : ∀ row, twos (bitsF P row) = if pf row = true then twos (bitsF M row) else 0 := fun row => by
    have e6 : bitsF P row = (bitsF M row).map fun b => rAnd b (pf row) := by
      have h7 : bitsF P row = (P.map (·.2)).map fun f => f row := by unfold bitsF; rw [List.map_map]; rfl
      rw [h7, eP, List.map_map]
      unfold bitsF
      rw [List.map_map]; rfl
    rw [e6, twos_and]
  obtain ⟨T, h1, h2, h3, h4, h5⟩ := bP.sli
  rw [h1] at hD
  have neT : T ≠ [] := fun z => neM (List.eq_nil_of_length_eq_zero (by rw [← lP, ← h2, z]; rfl))
  walk_at "gx"
  refine ⟨D, n, T, rfl, .inl (SqL.of hD), neT, h3, by omega, fun d T' H6 nd e6 hd hT' => ?_⟩
  obtain ⟨rest, hrest⟩ := hT'.pre
  have sub : ∀ t ∈ T', t ∈ T := fun t ht => by rw [hrest]; exact List.mem_append.mpr (.inl ht)
  have lT' : T'.length ≤ T.length := by rw [hrest, List.length_append]; omega
  walk_at "gx"
  refine ⟨fun u H7 e7 hu => ?_⟩
  have e37 := (e5.trans e6).trans e7
  have s27 := Same.slt e37 s2
  have e27 := e2.trans e37
  walk_at "gx"
  refine Sto.sl cf s27 (i := 2) rfl ?_
  have e8 : Same H0 (SlX.slH H7 x (He.ga K "Column") dx (SlX.putS 2 (.ref u) [some (.ref p), some (.int n)])) := same_o e27 nx ndx SameO.slH
  have s3 : SlX.Slt (SlX.slH H7 x (He.ga K "Column") dx (SlX.putS 2 (.ref u) [some (.ref p), some (.int n)])) x (He.ga K "Column") dx [some (.ref p), some (.int n), some (.ref u)] := SlX.slH_slt hne
  have hy7 : ∀ o, H7 dx = some o → (∀ ys, o ≠ .tup ys) ∧ ∀ u w, o ≠ .frz u w := fun o ho => by
    refine ⟨fun ys z => ?_, fun u w z => ?_⟩
    · subst z
      rcases s27 with ⟨_, q⟩ | ⟨_, q⟩
      · cases q
      · rw [ho] at q; cases q
    · subst z
      rcases s27 with ⟨_, q⟩ | ⟨_, q⟩
      · cases q
      · rw [ho] at q; cases q
  have hu8 := SameO.slH.tup (vs := [some (.ref p), some (.int n)]) (H' := SlX.slH H7 x (He.ga K "Column") dx (SlX.putS 2 (.ref u) [some (.ref p), some (.int n)])) s27 hy7 hu
  have x78 := slH_x (ws := SlX.putS 2 (.ref u) [some (.ref p), some (.int n)]) s27 (by simp)
  refine ⟨?_⟩
  generalize SlX.slH H7 x (He.ga K "Column") dx (SlX.putS 2 (.ref u) [some (.ref p), some (.int n)]) = H8 at *
  walk_at "gx"
  refine Atr.sl cf s3 (i := 2) rfl rfl ?_
  walk_at "gx"
  refine Sto.sl cf s3 (i := 3) rfl ?_
  have hy8 : ∀ o, H8 dx = some o → (∀ ys, o ≠ .tup ys) ∧ ∀ u w, o ≠ .frz u w := fun o ho => by
    refine ⟨fun ys z => ?_, fun u w z => ?_⟩
    · subst z
      rcases s3 with ⟨_, q⟩ | ⟨_, q⟩
      · cases q
      · rw [ho] at q; cases q
    · subst z
      rcases s3 with ⟨_, q⟩ | ⟨_, q⟩
      · cases q
      · rw [ho] at q; cases q
  have e9 := same_o e8 nx ndx (SameO.slH (H := H8) (vs := SlX.putS 3 (.int ((T'.map vB).length : Int)) [some (.ref p), some (.int n), some (.ref u)]) (C := He.ga K "Column"))
  have hu9 := SameO.slH.tup (H' := SlX.slH H8 x (He.ga K "Column") dx (SlX.putS 3 (.int ((T'.map vB).length : Int)) [some (.ref p), some (.int n), some (.ref u)])) s3 hy8 hu8
  have hnum : ∀ row, 0 ≤ row → row < n → twos (bitsF (T'.map fun t => (t.1, inB t.2)) row) = (colF pf M row).getD 0 := fun row r0 r1 => by
    rw [bitsF_sli]
    show numL (T'.map (·.2)) row = _
    rw [hT'.num row]
    have e10 : numL (T.map (·.2)) row = twos (bitsF P row) := by unfold numL; rw [List.map_map, ← h5 row r0 r1]; rfl
    rw [e10, valP row]
    unfold colF
    by_cases hh : pf row = true
    · rw [if_pos hh, if_pos hh]; rfl
    · rw [if_neg hh, if_neg hh]; rfl
  have hB7 : Bms K H7 n T' := fun t ht => ((h3 t (sub t ht)).same e6).same e7
  have epf : (fun r => (colF pf M r).isSome) = pf := by
    funext r
    unfold colF
    by_cases hh : pf r = true
    · rw [if_pos hh, hh]; rfl
    · rw [if_neg hh]
      cases h : pf r
      · rfl
      · exact absurd h hh
  have xT : ∀ t ∈ T, t.1 ≠ x := fun t ht => by
    have hm : vB t ∈ P.map vF := by rw [h1]; exact List.mem_map.mpr ⟨t, ht, rfl⟩
    obtain ⟨v, hv, he⟩ := List.mem_map.mp hm
    have := xP v hv
    have e12 : v.1 = t.1 := V.ref.inj he
    rw [← e12]; exact this
  refine good neM _ e9 ⟨cf, n0, kn, dx, p, u, T'.map fun t => (t.1, inB t.2), ?_, ?_, ?_, ?_, ?_, ?_, hnum, ?_⟩
  · have e11 : ((T'.map fun t => ((t.1, inB t.2) : Slf)).length : Int) = ((T'.map vB).length : Int) := by rw [List.length_map, List.length_map]
    rw [e11]
    exact SlX.slH_slt hne
  · rw [epf]; exact hp0.same e9
  · rw [vF_sli]; exact hu9
  · refine Bms.bss (fun t ht => ?_) fun t ht => h4 t (sub t ht)
    exact ((hB7 t ht).slx s27 (by simp) (xT t (sub t ht)) x78).slx s3 (by simp) (xT t (sub t ht)) (slH_x s3 (by simp))
  · simpa using hT'.ne
  · rw [List.length_map]; omega
  · intro hl
    rw [List.length_map] at hl
    obtain ⟨z, z0, z1, hw⟩ := narrow_row hT' (fun t ht => (h3 t (sub t ht)).2.2.1) hl
    refine ⟨z, z0, z1, ?_⟩
    rw [← hnum z z0 z1, bitsF_sli, List.length_map]
    exact hw
/-- a column is made -/
theorem mk_column {K : Frag} {H : Hp} {p q : Addr} {n : Int} {pf : Int → Bool} {M : List Slf} {S : List Int} {R : Addr → Hp → Prop} {E : XK} (cf : CmF K) (hp : Bs K H p n pf S) (hq : SqA K H q (M.map vF)) (hM : Bss K H n S M) (lM : M.length ≤ 1000) (kn : Kn S) (n0 : 0 ≤ n)
    (good : M ≠ [] → ∀ x H', Same H H' → H x = none → Cm K H' x n (colF pf M) S → R x H') (bad : M = [] → XF K "BadColumn" → ∀ H', Same H H' → E (.ref (He.ga K "BadColumn")) none H') :
    NewI K H "Column" fun x H2 => sp_Columndd_initdd K [.ref x, .ref p, .ref q] H2 (fun v H3 => v = .non ∧ R x H3) E := by
  refine ⟨fun x dx h1 h2 hne => ?_⟩
  have e : Same H (upd (upd H dx (.own x)) x (.ins (He.ga K "Column") dx [])) := fun b o h => by
    rw [upd_ne (ne_of_none h h1), upd_ne (ne_of_none h h2)]; exact h
  exact ⟨x, p, q, rfl, cf, .inl ⟨H, dx, n, pf, M, S, h1, h2, e, upd_same, by rw [upd_ne hne, upd_same], hne, hp, hq, hM, lM, kn, n0, fun ne H' e' hc => ⟨rfl, good ne x H' e' h1 hc⟩, fun em xf => bad em xf _ e⟩⟩
/-- slices of another size -/
theorem mk_column_bad {K : Frag} {H : Hp} {p q : Addr} {n : Int} {ep : List Int} {Z : List (Addr × Int × List Int)} {R : Addr → Hp → Prop} {E : XK} (cf : CmF K) (hp : Bm K H p n ep) (hq : SqA K H q (Z.map fun t => V.ref t.1)) (hZ : ∀ t ∈ Z, Bm K H t.1 t.2.1 t.2.2) (hne : ∃ t ∈ Z, t.2.1 ≠ n)
    (bad : XF K "SizesDiffer" → ∀ H', Same H H' → E (.ref (He.ga K "SizesDiffer")) none H') :
    NewI K H "Column" fun x H2 => sp_Columndd_initdd K [.ref x, .ref p, .ref q] H2 (fun v H3 => v = .non ∧ R x H3) E := by
  refine ⟨fun x dx h1 h2 hne2 => ?_⟩
  have e : Same H (upd (upd H dx (.own x)) x (.ins (He.ga K "Column") dx [])) := fun b o h => by
    rw [upd_ne (ne_of_none h h1), upd_ne (ne_of_none h h2)]; exact h
  exact ⟨x, p, q, rfl, cf, .inr ⟨n, ep, Z, hp.same e, Same.sqa e hq, fun t ht => (hZ t ht).same e, hne, fun xf => bad xf _ e⟩⟩
end S
namespace S
open PySem PySem.Spec PyProof.Rows L2
def t_Bitmapdd_containsdd (K : Frag) (E : XK) : TS :=
    tRet (dAndV (dChain oLe oLt (tC (.int 0)) (dVar 1) (dAt K "size" (dVar 0))) (tOp (oEq K) (tOp oAnd (tCB (cLen K) (tCons (dLc (iSeq K (dAt K "ends" (dVar 0))) (gName 2) (dCmpT oLe (dVar 2) (dVar 1)) (dVar 2) [2]) (tNil))) (tC (.int 1))) (tC (.int 1))))
end S
-- fn: Bitmap.__contains__
-- law: k01
-- deps: Bm _law_in
namespace S
open PySem PySem.Spec PyProof.Rows L2
/-- a row is in the bitmap -/
def rowIn (n : Int) (es : List Int) (row : Int) : Bool := decide (0 ≤ row) && (decide (row < n) && inB es row)
def sp_Bitmapdd_containsdd (K : Frag) : Sp := fun vs H Q _ => ∃ (x : Addr) (n : Int) (es : List Int) (row : Int), vs = [.ref x, .int row] ∧ Bm K H x n es ∧ es.length ≤ 100000 ∧ ∀ H', Same H H' → Q (.bl (rowIn n es row)) H'
theorem inB_odd (es : List Int) (row : Int) : inB es row = decide (((es.filter fun e => decide (e ≤ row)).length) % 2 = 1) := by
  induction es with
  | nil => rfl
  | cons x r ih =>
    rw [inB_cons, List.filter_cons]
    by_cases h : x ≤ row
    · rw [if_pos h, if_pos (by simpa using h), ih, List.length_cons]
      by_cases h2 : (r.filter fun e => decide (e ≤ row)).length % 2 = 1
      · rw [decide_eq_true h2, decide_eq_false (by omega)]; rfl
      · rw [decide_eq_false h2, decide_eq_true (by omega)]; rfl
    · rw [if_neg h, if_neg (by simpa using h), ih]
theorem pure_Bitmapdd_containsdd {K : Frag} (vs : List V) (H : Hp) (Q : VK) (E : XK) (h : sp_Bitmapdd_containsdd K vs H Q E) : t_Bitmapdd_containsdd K E { nx := fun _ H' => Q .non H', rt := Q } (start ["self", "row", "end"] vs) H := by
  obtain ⟨x, n, es, row, rfl, hb, hl, q⟩ := h
  obtain ⟨c, h0, hE, dx, p, hs, hp⟩ := id hb
  walk_at "gx"
  refine ifd (fun h1 => ?_) (fun h1 => ?_)
  · walk_at "gx"
    refine Atr.sl c hs (i := 1) rfl rfl ?_
    walk_at "gx"
    refine ifd (fun h2 => ?_) (fun h2 => ?_)
    · walk_at "gx"
      refine Atr.sl c hs (i := 0) rfl rfl ?_
      refine lc_map (fun v => v) (fun v => match v with | .int i => decide (i ≤ row) | _ => false) (.inr hp) (by rw [List.length_map, sizeLine_eq]; omega) ?_ fun D H5 nD hD e5 => ?_
      · intro y H A B hm e hA hB
        obtain ⟨i, hi, rfl⟩ := List.mem_map.mp hm
        refine ⟨rfl, ?_⟩
        walk_at "gx"
        refine ifc (fun h => ?_) (fun h => ?_)
        · exact hA _ (Same.refl _) (decide_eq_true h)
        · exact hB _ (Same.refl _) (decide_eq_false h)
      · rw [map_filter_ints _ _ (fun i => decide (i ≤ row)) (fun i => i) (fun _ => rfl) (fun _ => rfl), List.map_id'] at hD
        walk_at "gx"
        have z := q H5 e5
        have e : rowIn n es row = decide (Builtin.bitAnd (((es.filter fun e => decide (e ≤ row)).map V.int).length : Int) 1 = 1) := by
          unfold rowIn
          rw [decide_eq_true h1, decide_eq_true h2, inB_odd, bitAnd_m1, List.length_map, Bool.true_and, Bool.true_and, decide_eq_decide]
          omega
        rw [e] at z
        exact z
    · have e : rowIn n es row = false := by unfold rowIn; rw [decide_eq_false h2]; simp
      have z := q H (Same.refl _)
      rw [e] at z
      exact z
  · have e : rowIn n es row = false := by unfold rowIn; rw [decide_eq_false h1]; rfl
    have z := q H (Same.refl _)
    rw [e] at z
    exact z
end S
namespace S
open PySem PySem.Spec PyProof.Rows L2
def t_width_for_2 (K : Frag) (E : XK) : TS :=
    tRet (tOp (oAdd K) (dBits (dVar 0)) (tC (.int 1)))
def t_width_for_1 (K : Frag) (E : XK) : TS :=
    tSeq (dIfS (dCmpT oLt (dVar 0) (tC (.int 0))) (tRet (tOp (oAdd K) (dBits (tOp oSub (tUn uNeg (dVar 0)) (tC (.int 1)))) (tC (.int 1)))) (tNext))
    (stop (t_width_for_2 K E))
def t_width_for (K : Frag) (E : XK) : TS :=
    tSeq (dIfS (dCmpT oIsN (dVar 0) (tC .non)) (tRet (tC (.int 1))) (tNext))
    (stop (t_width_for_1 K E))
end S
namespace S
open PySem PySem.Spec PyProof.Rows L2
def t_bit_of_1 (K : Frag) (E : XK) : TS :=
    tRet (tOp oAnd (tOp oShr (dVar 0) (dVar 1)) (tC (.int 1)))
def t_bit_of (K : Frag) (E : XK) : TS :=
    tSeq (dIfS (dCmpT oIsN (dVar 0) (tC .non)) (tRet (tC (.int 0))) (tNext))
    (stop (t_bit_of_1 K E))
end S
namespace S
open PySem PySem.Spec PyProof.Rows L2
def t_weight_of_1 (K : Frag) (E : XK) : TS :=
    tRet (tOp oShl (tC (.int 1)) (dVar 0))
def t_weight_of (K : Frag) (E : XK) : TS :=
    tSeq (dIfS (dCmpT (oEq K) (dVar 0) (tOp oSub (dVar 1) (tC (.int 1)))) (tRet (tUn uNeg (tOp oShl (tC (.int 1)) (dVar 0)))) (tNext))
    (stop (t_weight_of_1 K E))
end S
-- fn: width_for bit_of weight_of
-- law: k15
-- deps: Tw Bitmap_contains
namespace S
open PySem PySem.Spec PyProof.Rows L2
def vO (v : Option Int) : V := match v with
  | none => .non
  | some i => .int i
def widO (v : Option Int) : Nat := match v with
  | none => 1
  | some i => widI i
def bitO (v : Option Int) (p : Nat) : Bool := match v with
  | none => false
  | some i => bitI i p
def sp_width_for (K : Frag) : Sp := fun vs H Q _ => ∃ v : Option Int, vs = [vO v] ∧ Q (.int (widO v : Nat)) H
theorem pure_width_for {K : Frag} (vs : List V) (H : Hp) (Q : VK) (E : XK) (h : sp_width_for K vs H Q E) : t_width_for K E { nx := fun _ H' => Q .non H', rt := Q } (start ["value"] vs) H := by
  obtain ⟨v, rfl, q⟩ := h
  cases v with
  | none =>
    refine ⟨rfl, ?_⟩
    exact q
  | some i =>
    refine ⟨rfl, ?_⟩
    have q : Q (.int ((Builtin.Int.intBits (if i < 0 then -i - 1 else i) + 1 : Nat) : Int)) H := q
    refine ⟨?_⟩
    refine ifd (fun h => ?_) (fun h => ?_)
    · rw [if_pos h] at q
      exact q
    · rw [if_neg h] at q
      exact ⟨q⟩
def sp_bit_of (K : Frag) : Sp := fun vs H Q _ => ∃ (v : Option Int) (p : Nat), vs = [vO v, .int (p : Int)] ∧ Q (.int (b2n (bitO v p))) H
theorem b2n_bitI (v : Int) (p : Nat) : b2n (bitI v p) = (v / 2 ^ p) % 2 := by
  unfold b2n bitI
  by_cases h : (v / 2 ^ p) % 2 = 1
  · rw [decide_eq_true h, if_pos rfl, h]
  · rw [decide_eq_false h, if_neg Bool.false_ne_true]; omega
theorem pure_bit_of {K : Frag} (vs : List V) (H : Hp) (Q : VK) (E : XK) (h : sp_bit_of K vs H Q E) : t_bit_of K E { nx := fun _ H' => Q .non H', rt := Q } (start ["value", "place"] vs) H := by
  obtain ⟨v, p, rfl, q⟩ := h
  cases v with
  | none =>
    refine ⟨rfl, ?_⟩
    exact q
  | some i =>
    refine ⟨rfl, ?_⟩
    have q : Q (.int (b2n (bitI i p))) H := q
    rw [b2n_bitI, ← bitAnd_m1] at q
    refine ⟨?_⟩
    walk_at "gx"
    exact q
def sp_weight_of (K : Frag) : Sp := fun vs H Q _ => ∃ (p w : Nat), vs = [.int (p : Int), .int (w : Int)] ∧ p ≤ 1000 ∧ Q (.int (if p + 1 = w then -(2 ^ p : Int) else 2 ^ p)) H
theorem pure_weight_of {K : Frag} (vs : List V) (H : Hp) (Q : VK) (E : XK) (h : sp_weight_of K vs H Q E) : t_weight_of K E { nx := fun _ H' => Q .non H', rt := Q } (start ["place", "width"] vs) H := by
  obtain ⟨p, w, rfl, hp, q⟩ := h
  walk_at "gx"
  refine ifd (fun h => ?_) (fun h => ?_)
  · have h : (p : Int) = (w : Int) - 1 := h
    rw [if_pos (by omega)] at q
    walk_at "gx"
    have e : -((1 : Int) * 2 ^ ((p : Int)).toNat) = -(2 ^ p) := by rw [Int.one_mul, Int.toNat_natCast]
    exact Eq.mp (congrArg (fun z => Q (V.int z) H) e.symm) q
  · have h : ¬ (p : Int) = (w : Int) - 1 := h
    rw [if_neg (by omega)] at q
    walk_at "gx"
    have e : ((1 : Int) * 2 ^ ((p : Int)).toNat) = 2 ^ p := by rw [Int.one_mul, Int.toNat_natCast]
    exact Eq.mp (congrArg (fun z => Q (V.int z) H) e.symm) q
end S
namespace S
open PySem PySem.Spec PyProof.Rows L2
def t__law_rows_of_b2 (K : Frag) (E : XK) : TS :=
    dIfS (dCmpT (oNin K) (dVar 4) (dVar 2)) (tDrop (dML K mApp (dVar 2) (tCons (dVar 4) (tNil)))) (tNext)
def t__law_rows_of_b1 (K : Frag) (E : XK) : TS :=
    dFor (iSeq K (dVar 3)) (gName 4) (t__law_rows_of_b2 K E)
def t__law_rows_of_3 (K : Frag) (E : XK) : TS :=
    tRet (dVar 2)
def t__law_rows_of_2 (K : Frag) (E : XK) : TS :=
    tSeq (dFor (iSeq K (dVar 1)) (gName 3) (t__law_rows_of_b1 K E))
    (stop (t__law_rows_of_3 K E))
def t__law_rows_of_1 (K : Frag) (E : XK) : TS :=
    tSeq (dIfS (dCmpT oGt (dVar 0) (tC (.int 0))) (tAsg (dLst (tCons (tC (.int 0)) (tNil))) (gName 2)) (tNext))
    (stop (t__law_rows_of_2 K E))
def t__law_rows_of (K : Frag) (E : XK) : TS :=
    tSeq (tAsg (dLst (tNil)) (gName 2))
    (stop (t__law_rows_of_1 K E))
end S
-- fn: _law_rows_of
-- law: k12
-- deps: Sl _law_places
namespace S
open PySem PySem.Spec PyProof.Rows L2
theorem SameX.stay {K : Frag} {st p : Addr} {H H' : Hp} {l : List V} (e : SameX st H H') (n : p ≠ st) (hst : H st = some (.lst l)) : Stay K p H H' := fun _ => ⟨fun h => e.seq h n, fun h => e.tup h hst⟩
/-- lists of rows within the size -/
def LssB (H : Hp) (n : Int) (most : Nat) (M : List Sli) : Prop := ∀ t ∈ M, H t.1 = some (.lst (t.2.map V.int)) ∧ (∀ z ∈ t.2, 0 ≤ z ∧ z < n) ∧ t.2.length ≤ most
theorem Lss.b {H : Hp} {n : Int} {most : Nat} {M : List Sli} (h : Lss H n most M) : LssB H n most M := fun t ht => let ⟨a, b, c⟩ := h t ht; ⟨a, b.2, c⟩
def sp__law_rows_of (K : Frag) : Sp := fun vs H Q _ => ∃ (p : Addr) (n : Int) (M : List Sli), vs = [.int n, .ref p] ∧ H p = some (.lst (M.map vB)) ∧ LssB H n 1000 M ∧ M.length ≤ 1000 ∧
  ∀ (q : Addr) (rows : List Int) (H' : Hp), H q = none → Same H H' → H' q = some (.lst (rows.map V.int)) → (∀ z ∈ rows, 0 ≤ z ∧ z < n) → (∀ t ∈ M, ∀ z ∈ t.2, z ∈ rows) → rows.length ≤ 1000001 → (0 < n → (0 : Int) ∈ rows) → (∀ m, (∀ t ∈ M, t.2.length ≤ m) → rows.length ≤ 1 + M.length * m) → Q (.ref q) H'
def lenTo (M : List Sli) (i : Nat) : Nat := ((M.take i).map fun t => t.2.length).sum
theorem lenTo_succ {M : List Sli} {i : Nat} {t : Sli} (h : M[i]? = some t) : lenTo M (i + 1) = lenTo M i + t.2.length := by
  unfold lenTo
  rw [List.take_succ, h, List.map_append, List.sum_append]
  rfl
theorem lenTo_le {m : Nat} : ∀ {M : List Sli}, (∀ t ∈ M, t.2.length ≤ m) → (M.map fun t => t.2.length).sum ≤ M.length * m
  | [], _ => by simp
  | t :: M, h => by
    have h1 := h t (List.mem_cons_self ..)
    have h2 := lenTo_le (M := M) fun x hx => h x (List.mem_cons_of_mem _ hx)
    rw [List.map_cons, List.sum_cons, List.length_cons, Nat.succ_mul]
    omega
theorem lenTo_bd {M : List Sli} {m : Nat} (h : ∀ t ∈ M, t.2.length ≤ m) (i : Nat) : lenTo M i ≤ M.length * m := by
  have h1 := lenTo_le (M := M.take i) fun t ht => h t (List.mem_of_mem_take ht)
  have h2 : (M.take i).length * m ≤ M.length * m := Nat.mul_le_mul_right _ (List.length_take_le' ..)
  exact Nat.le_trans h1 h2
def inv__rows (H0 : Hp) (n : Int) (p d : Addr) (M : List Sli) (r0 : List Int) (i : Nat) (σ : L2.St) (H1 : Hp) : Prop := ∃ (rows : List Int) (k1 k2 : Option V), σ = [some (.int n), some (.ref p), some (.ref d), k1, k2] ∧ SameX d H0 H1 ∧ H1 d = some (.lst (rows.map V.int)) ∧ (∀ z ∈ rows, 0 ≤ z ∧ z < n) ∧ (∀ j t, j < i → M[j]? = some t → ∀ z ∈ t.2, z ∈ rows) ∧ rows.length ≤ 1 + lenTo M i ∧ ∀ z ∈ r0, z ∈ rows
theorem pure__law_rows_of {K : Frag} (vs : List V) (H : Hp) (Q : VK) (E : XK) (h : sp__law_rows_of K vs H Q E) : t__law_rows_of K E { nx := fun _ H' => Q .non H', rt := Q } (start ["_law_size_here", "_law_lists", "_law_rows", "_law_ends_here", "_law_end"] vs) H := by
  obtain ⟨p, n, M, rfl, hp, hL, hM, q⟩ := h
  have main : ∀ (d : Addr) (r0 : List Int) (H0 : Hp), H d = none → Same H H0 → H0 d = some (.lst (r0.map V.int)) → (∀ z ∈ r0, 0 ≤ z ∧ z < n) → r0.length ≤ 1 → (0 < n → (0 : Int) ∈ r0) →
      t__law_rows_of_2 K E { nx := fun _ H' => Q .non H', rt := Q } [some (.int n), some (.ref p), some (.ref d), none, none] H0 := by
    intro d r0 H0 nd e0 hd hr hl h00
    have hp0 := e0 _ _ hp
    have pd : p ≠ d := ne_of_none hp nd
    walk_at "gx"
    refine for_seq (inv__rows H0 n p d M r0) (.inl (SqL.of hp0)) ⟨r0, none, none, rfl, SameX.refl _ _, hd, hr, fun j t hj => absurd hj (by omega), by omega, fun _ h => h⟩ (fun i σ H' _ z => let ⟨_, _, _, _, e, _⟩ := z; e.stay pd hd) ?_ ?_
    · rintro i v σ H1 hi ⟨rows, k1, k2, rfl, e1, hd1, hr1, ha, hl1, hz0⟩
      obtain ⟨t, ht, rfl⟩ := map_get hi
      have hm := List.mem_of_getElem? ht
      have hil : i < M.length := (List.getElem?_eq_some_iff.mp ht).1
      obtain ⟨b1, b2, b3⟩ := hL t hm
      have bd : lenTo M i ≤ 1000000 := by have := lenTo_bd (fun t ht => (hL t ht).2.2) i; have : M.length * 1000 ≤ 1000 * 1000 := Nat.mul_le_mul_right _ hM; omega
      have td : t.1 ≠ d := ne_of_none b1 nd
      have b1' := e1 _ _ (e0 _ _ b1) td
      walk_at "gx"
      refine for_seq (fun j σ H2 => ∃ (rows : List Int) (k2 : Option V), σ = [some (.int n), some (.ref p), some (.ref d), some (.ref t.1), k2] ∧ SameX d H1 H2 ∧ H2 d = some (.lst (rows.map V.int)) ∧ (∀ z ∈ rows, 0 ≤ z ∧ z < n) ∧ (∀ j t, j < i → M[j]? = some t → ∀ z ∈ t.2, z ∈ rows) ∧ (∀ z ∈ t.2.take j, z ∈ rows) ∧ rows.length ≤ 1 + lenTo M i + j ∧ ∀ z ∈ r0, z ∈ rows)
        (.inl (SqL.of b1')) ⟨rows, k2, rfl, SameX.refl _ _, hd1, hr1, ha, by simp, by omega, hz0⟩ (fun i σ H' _ z => let ⟨_, _, _, e, _⟩ := z; e.stay td hd1) ?_ ?_
      · rintro j v σ H2 hj ⟨rows, k2, rfl, e2, hd2, hr2, ha2, ha3, hl2, hz2⟩
        obtain ⟨z, hz, rfl⟩ := map_get hj
        have hjl : j < t.2.length := (List.getElem?_eq_some_iff.mp hz).1
        have hzm := List.mem_of_getElem? hz
        have tk : t.2.take (j + 1) = t.2.take j ++ [z] := by rw [List.take_succ, hz]; rfl
        walk_at "gx"
        refine ⟨⟨rfl, flat_ints _⟩, ?_⟩
        rw [inV_int]
        by_cases hin : z ∈ rows
        · rw [decide_eq_true hin]
          refine ⟨rows, _, rfl, e2, hd2, hr2, ha2, fun w hw => ?_, by omega, hz2⟩
          rw [tk] at hw
          rcases List.mem_append.mp hw with hw | hw
          · exact ha3 w hw
          · rw [List.mem_singleton.mp hw]; exact hin
        · rw [decide_eq_false hin]
          walk_at "gx"
          refine ⟨rows ++ [z], _, rfl, e2.put, by rw [upd_same, List.map_append]; rfl, fun w hw => ?_, fun j' t' h1 h2 w hw => List.mem_append.mpr (.inl (ha2 j' t' h1 h2 w hw)), fun w hw => ?_, by simp; omega, fun w hw => List.mem_append.mpr (.inl (hz2 w hw))⟩
          · rcases List.mem_append.mp hw with hw | hw
            · exact hr2 w hw
            · rw [List.mem_singleton.mp hw]; exact b2 z hzm
          · rw [tk] at hw
            rcases List.mem_append.mp hw with hw | hw
            · exact List.mem_append.mpr (.inl (ha3 w hw))
            · exact List.mem_append.mpr (.inr hw)
      · rintro σ H2 ⟨rows, k2, rfl, e2, hd2, hr2, ha2, ha3, hl2, hz2⟩
        rw [List.length_map, List.take_length] at ha3
        rw [List.length_map] at hl2
        refine ⟨rows, _, k2, rfl, e1.trans e2, hd2, hr2, fun j t' h1 h2 z hz => ?_, by rw [lenTo_succ ht]; omega, hz2⟩
        by_cases hji : j = i
        · subst hji
          rw [ht] at h2
          cases h2
          exact ha3 z hz
        · exact ha2 j t' (by omega) h2 z hz
    · rintro σ H1 ⟨rows, k1, k2, rfl, e1, hd1, hr1, ha, hl1, hz1⟩
      rw [List.length_map] at ha
      have gl : ∀ m, (∀ t ∈ M, t.2.length ≤ m) → rows.length ≤ 1 + M.length * m := fun m hm => by
        have := lenTo_le hm
        rw [List.length_map] at hl1
        unfold lenTo at hl1
        rw [List.take_length] at hl1
        omega
      refine ⟨q d rows H1 nd (SameX.same e0 e1 nd) hd1 hr1 (fun t ht z hz => ?_) (by have := gl 1000 (fun t ht => (hL t ht).2.2); have : M.length * 1000 ≤ 1000 * 1000 := Nat.mul_le_mul_right _ hM; omega) (fun h => hz1 0 (h00 h)) gl⟩
      obtain ⟨j, hj⟩ := List.getElem?_of_mem ht
      exact ha j t (List.getElem?_eq_some_iff.mp hj).1 hj z hz
  walk_at "gx"
  refine ⟨fun d nd => ?_⟩
  have e0 := same_new (o := .lst []) nd
  walk_at "gx"
  refine ifd (fun h0 => ?_) (fun h0 => ?_)
  · walk_at "gx"
    refine ⟨fun d2 nd2 => ?_⟩
    exact ⟨main d2 [0] _ (same_none e0 nd2) (e0.trans (same_new nd2)) upd_same (fun z hz => by rw [List.mem_singleton.mp hz]; exact ⟨Int.le_refl _, h0⟩) (by simp) (fun _ => List.mem_singleton.mpr rfl)⟩
  · exact ⟨main d [] _ nd e0 upd_same (fun _ z => nomatch z) (by simp) (fun z => absurd z h0)⟩
end S
namespace S
open PySem PySem.Spec PyProof.Rows L2
def t_bitmap_of_b1_1 (K : Frag) (E : XK) : TS :=
    tAsg (tOp (oAdd K) (dVar 3) (dVar 4)) (gName 3)
def t_bitmap_of_b1 (K : Frag) (E : XK) : TS :=
    tSeq (dIfS (dAnd (dCmpT oGt (dVar 4) (tC (.int 0))) (dCmpT (oNe K) (dVar 5) (dVar 2))) (tSeq (tDrop (dML K mApp (dVar 1) (tCons (dVar 3) (tNil))))
    (tAsg (dVar 5) (gName 2))) (tNext))
    (stop (t_bitmap_of_b1_1 K E))
def t_bitmap_of_3 (K : Frag) (E : XK) : TS :=
    tRet (dGiv (CF K "Bitmap" ["ends", "size"]) (dMake K "Bitmap" (sp_Bitmapdd_initdd K) (EW E) (tCons (dVar 3) (tCons (dVar 1) (tNil)))))
def t_bitmap_of_2 (K : Frag) (E : XK) : TS :=
    tSeq (dFor (iSeq K (dVar 0)) (gTup K 2 (gCons (gName 4) (gCons (gName 5) (gNil)))) (t_bitmap_of_b1 K E))
    (stop (t_bitmap_of_3 K E))
def t_bitmap_of_1 (K : Frag) (E : XK) : TS :=
    tSeq (tAsg2 (tC (.int 0)) (gName 2) (gName 3))
    (stop (t_bitmap_of_2 K E))
def t_bitmap_of (K : Frag) (E : XK) : TS :=
    tSeq (tAsg (dLst (tNil)) (gName 1))
    (stop (t_bitmap_of_1 K E))
end S
-- fn: bitmap_of
-- law: k15
-- deps: width_for Lc Bitmap_init _law_places _law_rows_of
namespace S
open PySem PySem.Spec PyProof.Rows L2
theorem paired_get {α β : Type} {R : α → β → Prop} : ∀ {as : List α} {bs : List β} {i : Nat} {b : β}, Paired R as bs → bs[i]? = some b → ∃ a, as[i]? = some a ∧ R a b
  | _, _, 0, b, .cons r _, h => by
    have e := Option.some.inj h
    subst e
    exact ⟨_, rfl, r⟩
  | _, _, i + 1, b, .cons _ h2, h => by
    obtain ⟨a, e, r⟩ := paired_get (i := i) h2 (by simpa using h)
    exact ⟨a, by simpa using e, r⟩
/-- a row's item among stretches -/
def strAt {α : Type} : List (Int × α) → Int → Option α
  | [], _ => none
  | (l, b) :: r, row => if row < l then some b else strAt r (row - l)
def total {α : Type} : List (Int × α) → Int
  | [] => 0
  | (l, _) :: r => l + total r
def sums {α : Type} : Int → List (Int × α) → List Int
  | _, [] => []
  | a, (l, _) :: r => a :: sums (a + l) r
def strB (T : List (Int × Bool)) (row : Int) : Bool := (strAt T row).getD false
theorem sums_len {α : Type} : ∀ (a : Int) (T : List (Int × α)), (sums a T).length = T.length
  | _, [] => rfl
  | a, (l, _) :: r => by show (sums (a + l) r).length + 1 = r.length + 1; rw [sums_len]
theorem inB_snoc (es : List Int) (x row : Int) : inB (es ++ [x]) row = if x ≤ row then !(inB es row) else inB es row := by
  unfold inB
  rw [List.foldl_append]; rfl
/-- where the walk stands: what is left, the place -/
structure StrGo {α : Type} (T : List (Int × α)) (i : Nat) (at_ : Int) : Prop where
  ge : 0 ≤ at_
  tot : at_ + total (T.drop i) = total T
  row : ∀ row, at_ ≤ row → strAt T row = strAt (T.drop i) (row - at_)
  mem : ∀ x, T[i]? = some x → at_ ∈ sums 0 T
theorem StrGo.zero {α : Type} (T : List (Int × α)) : StrGo T 0 0 := ⟨Int.le_refl _, by rw [List.drop_zero]; omega, fun row _ => by rw [List.drop_zero, Int.sub_zero], fun x h => by
  cases T with
  | nil => cases h
  | cons y r => obtain ⟨l, b⟩ := y; exact List.mem_cons_self ..⟩
theorem sums_next {α : Type} : ∀ (T : List (Int × α)) (a : Int) (i : Nat) (l : Int) (b : α), T[i]? = some (l, b) → ∀ (x : Int × α), T[i + 1]? = some x → ∀ at_ : Int, (∃ pre, pre = T.take i ∧ at_ = a + total pre) → at_ + l ∈ sums a T
  | [], _, _, _, _, h, _, _, _, _ => by simp at h
  | (l0, b0) :: r, a, 0, l, b, h, x, hx, at_, ⟨_, rfl, e⟩ => by
    have e2 : (l0, b0) = (l, b) := Option.some.inj h
    have e3 : l0 = l := congrArg Prod.fst e2
    subst e3
    have e : at_ = a + 0 := e
    cases r with
    | nil => simp at hx
    | cons y r2 =>
      obtain ⟨l1, b1⟩ := y
      rw [show at_ + l0 = a + l0 by omega]
      exact List.mem_cons_of_mem _ (List.mem_cons_self ..)
  | (l0, b0) :: r, a, i + 1, l, b, h, x, hx, at_, ⟨_, rfl, e⟩ => by
    have e : at_ = a + (l0 + total (r.take i)) := e
    exact List.mem_cons_of_mem _ (sums_next r (a + l0) i l b (by simpa using h) x (by simpa using hx) at_ ⟨_, rfl, by omega⟩)
theorem total_app {α : Type} : ∀ (A B : List (Int × α)), total (A ++ B) = total A + total B
  | [], B => by show total B = 0 + total B; omega
  | (l, b) :: r, B => by show l + total (r ++ B) = l + total r + total B; rw [total_app]; omega
theorem StrGo.next {α : Type} {T : List (Int × α)} {i : Nat} {at_ l : Int} {b : α} (g : StrGo T i at_) (h : T[i]? = some (l, b)) (hl : 0 ≤ l) : StrGo T (i + 1) (at_ + l) ∧ ∀ row, at_ ≤ row → row < at_ + l → strAt T row = some b := by
  have hd : T.drop i = (l, b) :: T.drop (i + 1) := by
    obtain ⟨hi, e⟩ := List.getElem?_eq_some_iff.mp h
    rw [List.drop_eq_getElem_cons hi, e]
  have tot := g.tot
  rw [hd] at tot
  have tot : at_ + (l + total (T.drop (i + 1))) = total T := tot
  refine ⟨⟨by have := g.ge; omega, by omega, fun row hr => ?_, fun x hx => ?_⟩, fun row h0 h1 => ?_⟩
  · rw [g.row row (by omega), hd]
    show (if row - at_ < l then _ else _) = _
    rw [if_neg (by omega)]
    congr 1
    omega
  · refine sums_next T 0 i l b h x hx at_ ⟨_, rfl, ?_⟩
    have e1 := total_app (T.take i) (T.drop i)
    rw [List.take_append_drop] at e1
    have := g.tot
    omega
  · rw [g.row row h0, hd]
    show (if row - at_ < l then _ else _) = _
    rw [if_pos (by omega)]
/-- stretches on the heap -/
def Strs (K : Frag) (H : Hp) (ys : List V) (T : List (Int × Bool)) : Prop := Paired (fun t y => ∃ a, y = .ref a ∧ SqT K H a [.int t.1, .int (b2n t.2)]) T ys
theorem b2n_inj {a b : Bool} : b2n a = b2n b ↔ a = b := by cases a <;> cases b <;> simp [b2n]
def sp_bitmap_of (K : Frag) : Sp := fun vs H Q _ => ∃ (p : Addr) (ys : List V) (T : List (Int × Bool)), vs = [.ref p] ∧ H p = some (.lst ys) ∧ Strs K H ys T ∧ T.length ≤ 900 ∧ (∀ t ∈ T, 0 ≤ t.1) ∧
  ∀ z H', Same H H' → H z = none → Bs K H' z (total T) (strB T) (0 :: sums 0 T) → Q (.ref z) H'
theorem pure_bitmap_of {K : Frag} (vs : List V) (H : Hp) (Q : VK) (E : XK) (h : sp_bitmap_of K vs H Q E) : t_bitmap_of K E { nx := fun _ H' => Q .non H', rt := Q } (start ["stretches", "ends", "bit", "at", "length", "now"] vs) H := by
  obtain ⟨p, ys, T, rfl, hp, hT, hlen, hpos, q⟩ := h
  have lT : ys.length = T.length := (Paired.length hT).symm
  walk_at "gx"
  refine ⟨fun d nd => ?_⟩
  have e0 := same_new (o := .lst ([] : List V)) nd
  have hp0 := e0 _ _ hp
  have hd0 : upd H d (.lst []) d = some (.lst []) := upd_same
  have pd : p ≠ d := ne_of_none hp nd
  walk_at "gx"
  refine for_seq (fun i σ H1 => ∃ (es : List Int) (cur : Bool) (at_ : Int) (k1 k2 : Option V), σ = [some (.ref p), some (.ref d), some (.int (b2n cur)), some (.int at_), k1, k2] ∧ SameX d (upd H d (.lst [])) H1 ∧ H1 d = some (.lst (es.map V.int)) ∧ StrGo T i at_ ∧ es.Pairwise (· < ·) ∧ (∀ e ∈ es, 0 ≤ e ∧ e < at_ ∧ e ∈ sums 0 T) ∧ es.length ≤ i ∧
      ∀ row, 0 ≤ row → inB es row = if row < at_ then strB T row else cur)
    (.inl (SqL.of hp0)) ⟨[], false, 0, none, none, rfl, SameX.refl _ _, hd0, StrGo.zero T, .nil, (fun _ z => nomatch z), Nat.le_refl _, fun row h0 => by rw [if_neg (by omega)]; rfl⟩ (fun i σ H' _ z => let ⟨_, _, _, _, _, _, e, _⟩ := z; e.stay pd hd0) ?_ ?_
  · rintro i v σ H1 hi ⟨es, cur, at_, k1, k2, rfl, e1, hd1, go, asc, mem, hle, inv⟩
    obtain ⟨⟨l, b⟩, hg, a, rfl, ha⟩ := paired_get hT hi
    have hl : 0 ≤ l := hpos _ (List.mem_of_getElem? hg)
    have hiT : i < T.length := (List.getElem?_eq_some_iff.mp hg).1
    obtain ⟨go2, seg⟩ := go.next hg hl
    have ha1 := e1.tup (Same.tup e0 ha) hd0
    refine ⟨a, [.int l, .int (b2n b)], rfl, ha1, rfl, _, _, rfl, _, _, rfl, rfl, ?_⟩
    have fin : ∀ (H2 : Hp) (es' : List Int) (cur' : Bool), SameX d (upd H d (.lst [])) H2 → H2 d = some (.lst (es'.map V.int)) → es'.Pairwise (· < ·) → (∀ e ∈ es', 0 ≤ e ∧ e < at_ + l ∧ e ∈ sums 0 T) → es'.length ≤ i + 1 → (∀ row, 0 ≤ row → inB es' row = if row < at_ + l then strB T row else cur') →
        ∃ (es : List Int) (cur : Bool) (at' : Int) (k1 k2 : Option V), [some (V.ref p), some (.ref d), some (.int (b2n cur')), some (.int (at_ + l)), some (.int l), some (.int (b2n b))] = [some (.ref p), some (.ref d), some (.int (b2n cur)), some (.int at'), k1, k2] ∧ SameX d (upd H d (.lst [])) H2 ∧ H2 d = some (.lst (es.map V.int)) ∧ StrGo T (i + 1) at' ∧ es.Pairwise (· < ·) ∧ (∀ e ∈ es, 0 ≤ e ∧ e < at' ∧ e ∈ sums 0 T) ∧ es.length ≤ i + 1 ∧ ∀ row, 0 ≤ row → inB es row = if row < at' then strB T row else cur :=
      fun H2 es' cur' f1 f2 f3 f4 f5 f6 => ⟨es', cur', at_ + l, _, _, rfl, f1, f2, go2, f3, f4, f5, f6⟩
    have strb : ∀ row, at_ ≤ row → row < at_ + l → strB T row = b := fun row h0 h1 => by unfold strB; rw [seg row h0 h1]; rfl
    have same : (l = 0 ∨ b = cur) → ∀ row, 0 ≤ row → inB es row = if row < at_ + l then strB T row else cur := fun hh row h0 => by
      rw [inv row h0]
      by_cases h1 : row < at_
      · rw [if_pos h1, if_pos (by omega)]
      · rw [if_neg h1]
        by_cases h2 : row < at_ + l
        · rw [if_pos h2, strb row (by omega) h2]
          rcases hh with hh | hh
          · omega
          · exact hh.symm
        · rw [if_neg h2]
    have keep : ∀ e ∈ es, 0 ≤ e ∧ e < at_ + l ∧ e ∈ sums 0 T := fun e he => let ⟨a, b, c⟩ := mem e he; ⟨a, by omega, c⟩
    walk_at "gx"
    refine ifd (fun h1 => ?_) (fun h1 => ?_)
    · have h1 : 0 < l := h1
      refine ifn (fun h2 => ?_) (fun h2 => ?_)
      · have hne : b ≠ cur := fun z => h2 (by rw [z])
        walk_at "gx"
        refine fin _ (es ++ [at_]) b e1.put (by rw [upd_same, List.map_append]; rfl) ?_ ?_ (by simp; omega) ?_
        · exact List.pairwise_append.mpr ⟨asc, List.pairwise_singleton _ _, fun x hx y hy => by rw [List.mem_singleton.mp hy]; exact (mem x hx).2.1⟩
        · intro e he
          rcases List.mem_append.mp he with he | he
          · exact keep e he
          · rw [List.mem_singleton.mp he]
            exact ⟨go.ge, by omega, go.mem _ hg⟩
        · intro row h0
          rw [inB_snoc, inv row h0]
          by_cases h3 : at_ ≤ row
          · rw [if_pos h3, if_neg (by omega)]
            have hb : (!cur) = b := by cases cur <;> cases b <;> simp_all
            by_cases h4 : row < at_ + l
            · rw [if_pos h4, strb row h3 h4, hb]
            · rw [if_neg h4, hb]
          · rw [if_neg h3, if_pos (by omega), if_pos (by omega)]
      · have he : b = cur := b2n_inj.mp h2
        walk_at "gx"
        exact fin H1 es cur e1 hd1 asc keep (by omega) (same (.inr he))
    · have h1 : ¬ 0 < l := h1
      walk_at "gx"
      exact fin H1 es cur e1 hd1 asc keep (by omega) (same (.inl (by omega)))
  · rintro σ H1 ⟨es, cur, at_, k1, k2, rfl, e1, hd1, go, asc, mem, hle, inv⟩
    rw [lT] at go
    have tot : at_ = total T := by
      have := go.tot
      rw [List.drop_length] at this
      have : at_ + 0 = total T := this
      omega
    subst tot
    have hE : Ends (total T) es := ⟨asc, fun e he => ⟨(mem e he).1, (mem e he).2.1⟩⟩
    have e2 := SameX.same e0 e1 nd
    walk_at "gx"
    refine fun cf => ?_
    refine mk_bitmap cf (.inl (SqL.of hd1)) (fun _ _ z H2 e3 nz hz => ?_) (fun nb => absurd ⟨go.ge, hE⟩ nb)
    exact q z H2 (e2.trans e3) (same_none e2 nz) ⟨es, hz, fun w hw => List.mem_cons_of_mem _ (mem w hw).2.2, fun row h0 h1 => by rw [inv row h0, if_pos h1]⟩
end S
namespace S
open PySem PySem.Spec PyProof.Rows L2
def t_Column_of_runs_b1_1 (K : Frag) (E : XK) : TS :=
    tAsg (tCB cMax2 (tCons (dVar 1) (tCons (dCall (sp_width_for K) (EW E) (tCons (dVar 3) (tNil))) (tNil)))) (gName 1)
def t_Column_of_runs_b1 (K : Frag) (E : XK) : TS :=
    tSeq (dIfS (dCmpT oLt (dVar 2) (tC (.int 0))) (dGivS (ExF K "BadColumn" ["SliceError"]) (dRaise K "BadColumn" (WD E))) (tNext))
    (stop (t_Column_of_runs_b1_1 K E))
def t_Column_of_runs_b2 (K : Frag) (E : XK) : TS :=
    tDrop (dML K mApp (dVar 5) (tCons (dCall (sp_bitmap_of K) (EW E) (tCons (dLc (iSeq K (dVar 0)) (gTup K 2 (gCons (gName 2) (gCons (gName 3) (gNil)))) (tYes) (dTup K (tCons (dVar 2) (tCons (dCall (sp_bit_of K) (EW E0) (tCons (dVar 3) (tCons (dVar 6) (tNil)))) (tNil)))) [2, 3]) (tNil))) (tNil)))
def t_Column_of_runs_5 (K : Frag) (E : XK) : TS :=
    tRet (dGiv (CF K "Column" ["presence", "size", "slices", "width"]) (dMake K "Column" (sp_Columndd_initdd K) (EW E) (tCons (dVar 4) (tCons (dVar 5) (tNil)))))
def t_Column_of_runs_4 (K : Frag) (E : XK) : TS :=
    tSeq (dFor (iRng (tCons (dVar 1) (tNil))) (gName 6) (t_Column_of_runs_b2 K E))
    (stop (t_Column_of_runs_5 K E))
def t_Column_of_runs_3 (K : Frag) (E : XK) : TS :=
    tSeq (tAsg (dLst (tNil)) (gName 5))
    (stop (t_Column_of_runs_4 K E))
def t_Column_of_runs_2 (K : Frag) (E : XK) : TS :=
    tSeq (tAsg (dCall (sp_bitmap_of K) (EW E) (tCons (dLc (iSeq K (dVar 0)) (gTup K 2 (gCons (gName 2) (gCons (gName 3) (gNil)))) (tYes) (dTup K (tCons (dVar 2) (tCons (tCB cInt (tCons (tOp oNotN (dVar 3) (tC .non)) (tNil))) (tNil)))) [2, 3]) (tNil))) (gName 4))
    (stop (t_Column_of_runs_3 K E))
def t_Column_of_runs_1 (K : Frag) (E : XK) : TS :=
    tSeq (dFor (iSeq K (dVar 0)) (gTup K 2 (gCons (gName 2) (gCons (gName 3) (gNil)))) (t_Column_of_runs_b1 K E))
    (stop (t_Column_of_runs_2 K E))
def t_Column_of_runs (K : Frag) (E : XK) : TS :=
    tSeq (tAsg (tC (.int 1)) (gName 1))
    (stop (t_Column_of_runs_1 K E))
end S
-- fn: Column.of_runs
-- law: k15
-- deps: Column_init bitmap_of width_for
namespace S
open PySem PySem.Spec PyProof.Rows L2
theorem paired_mapL {α β γ : Type} {R : γ → β → Prop} {f : α → γ} : ∀ {as : List α} {bs : List β}, Paired (fun a b => R (f a) b) as bs → Paired R (as.map f) bs
  | _, _, .nil => .nil
  | _, _, .cons r h => .cons r (paired_mapL h)
/-- [e for x, y in xs]: of pairs known ahead -/
theorem lc_tup {α : Type} {K : Frag} {p : Addr} {i k : Nat} {te : TE} {vs : List Nat} {σ : L2.St} {H1 : Hp} {Q : VK} {ys : List V} (as : List α) (f1 f2 : α → V) (R : Addr → α → V → Hp → Prop) (hx : SqA K H1 p ys) (hP : Paired (fun r y => ∃ a, y = .ref a ∧ SqT K H1 a [f1 r, f2 r]) as ys) (hz : as.length < sizeLine)
    (mono : ∀ D a y H H' l, H D = some (.lst l) → R D a y H → SameX D H H' → R D a y H')
    (hs : ∀ (D : Addr) (l : List V) (j : Nat) (a : α) (H : Hp) (A : V → Hp → Prop), H1 D = none → H D = some (.lst l) → as[j]? = some a → Same H1 H → (∀ y H', Same H H' → R D a y H' → A y H') → wipe (((wipe σ vs).set i (some (f1 a))).set k (some (f2 a))) vs = wipe σ vs ∧ te (((wipe σ vs).set i (some (f1 a))).set k (some (f2 a))) H A)
    (hd : ∀ D zs H', H1 D = none → H' D = some (.lst zs) → Paired (fun a y => R D a y H') as zs → Same H1 H' → Q (.ref D) H') :
    Walk K H1 p (Wr (LcGo (gTup K 2 (gCons (gName i) (gCons (gName k) gNil))) tYes te vs σ Q)) := by
  have hlen0 := Paired.length hP
  refine lc_seq hx fun D hD => ⟨fun j H => ∃ zs, H D = some (.lst zs) ∧ Paired (fun a y => R D a y H) (as.take j) zs ∧ Same H1 H, ⟨[], upd_same, .nil, same_new hD⟩, fun i H _ ⟨_, _, _, e⟩ ys => ⟨e.seq, Same.tup e⟩, ?_, fun H ⟨ys, h1, h2, e⟩ => hd D ys H hD h1 (by rw [← hlen0, List.take_length] at h2; exact h2) e⟩
  rintro j x H hi ⟨zs, h1, h2, e⟩
  obtain ⟨a, hj, ad, rfl, hT⟩ := paired_get hP hi
  have hil : j < as.length := (List.getElem?_eq_some_iff.mp hj).1
  have hlen : zs.length ≤ j := by
    rw [← h2.length, List.length_take]; exact Nat.min_le_left _ _
  obtain ⟨w, q⟩ := hs D zs j a H (fun y H4 => ∃ acc, H4 D = some (.lst acc) ∧ acc.length < sizeLine ∧ ∃ ys, upd H4 D (.lst (acc ++ [y])) D = some (.lst ys) ∧ Paired (fun a y' => R D a y' (upd H4 D (.lst (acc ++ [y])))) (as.take (j + 1)) ys ∧ Same H1 (upd H4 D (.lst (acc ++ [y])))) hD h1 hj e fun y H' e2 r => by
    have si : SameX D H' (L2.upd H' D (.lst (zs ++ [y]))) := SameX.upd
    refine ⟨zs, e2 _ _ h1, by omega, zs ++ [y], upd_same, ?_, fun b o hb => ?_⟩
    · rw [List.take_succ, hj]
      exact Paired.snoc (Paired.mapP h2 fun a b r => mono _ _ _ _ _ _ h1 r (Same.thenX e2 si)) (mono _ _ _ _ _ _ (e2 _ _ h1) r si)
    · rw [upd_ne (ne_of_none hb hD)]
      exact e2 _ _ (e _ _ hb)
  refine ⟨ad, [f1 a, f2 a], rfl, Same.tup e hT, rfl, _, _, rfl, _, _, rfl, rfl, w, ?_⟩
  unfold tYes
  dsimp only
  rw [if_pos rfl]
  exact q
/-- runs on the heap -/
def Runs (K : Frag) (H : Hp) (ys : List V) (R : List (Int × Option Int)) : Prop := Paired (fun r y => ∃ a, y = .ref a ∧ SqT K H a [.int r.1, vO r.2]) R ys
theorem Runs.same {K : Frag} {H H' : Hp} {ys : List V} {R : List (Int × Option Int)} (h : Runs K H ys R) (e : Same H H') : Runs K H' ys R := Paired.mapP h fun _ _ ⟨a, h1, h2⟩ => ⟨a, h1, Same.tup e h2⟩
def runF (R : List (Int × Option Int)) (row : Int) : Option Int := (strAt R row).getD none
theorem strAt_map {α β : Type} (g : α → β) : ∀ (R : List (Int × α)) (row : Int), strAt (R.map fun r => (r.1, g r.2)) row = (strAt R row).map g
  | [], _ => rfl
  | (l, v) :: r, row => by
    show (if row < l then _ else _) = Option.map g (if row < l then _ else _)
    by_cases h : row < l
    · rw [if_pos h, if_pos h]; rfl
    · rw [if_neg h, if_neg h, strAt_map g r]
theorem total_map {α β : Type} (g : α → β) : ∀ R : List (Int × α), total (R.map fun r => (r.1, g r.2)) = total R
  | [] => rfl
  | (l, v) :: r => by show l + _ = l + _; rw [total_map g r]
theorem sums_map {α β : Type} (g : α → β) : ∀ (a : Int) (R : List (Int × α)), sums a (R.map fun r => (r.1, g r.2)) = sums a R
  | _, [] => rfl
  | a, (l, v) :: r => by show a :: sums (a + l) _ = a :: sums (a + l) r; rw [sums_map g (a + l) r]
def presT (R : List (Int × Option Int)) : List (Int × Bool) := R.map fun r => (r.1, r.2.isSome)
def bitT (R : List (Int × Option Int)) (p : Nat) : List (Int × Bool) := R.map fun r => (r.1, bitO r.2 p)
theorem strB_pres (R : List (Int × Option Int)) (row : Int) : strB (presT R) row = (runF R row).isSome := by
  unfold strB presT runF
  rw [strAt_map (fun v : Option Int => v.isSome)]
  cases strAt R row <;> rfl
theorem strB_bit (R : List (Int × Option Int)) (p : Nat) (row : Int) : strB (bitT R p) row = bitO (runF R row) p := by
  unfold strB bitT runF
  rw [strAt_map (fun v : Option Int => bitO v p)]
  cases strAt R row <;> rfl
def wmax (R : List (Int × Option Int)) : Nat := R.foldl (fun m r => max m (widO r.2)) 1
theorem wmax_ge : ∀ (R : List (Int × Option Int)) (m : Nat), m ≤ R.foldl (fun m r => max m (widO r.2)) m ∧ ∀ r ∈ R, widO r.2 ≤ R.foldl (fun m r => max m (widO r.2)) m
  | [], m => ⟨Nat.le_refl _, fun _ z => nomatch z⟩
  | r :: R, m => by
    obtain ⟨h1, h2⟩ := wmax_ge R (max m (widO r.2))
    have h1' : max m (widO r.2) ≤ (r :: R).foldl (fun m r => max m (widO r.2)) m := h1
    refine ⟨by omega, fun x hx => ?_⟩
    rcases List.mem_cons.mp hx with rfl | hx
    · omega
    · exact h2 x hx
theorem wmax_le {b : Nat} : ∀ (R : List (Int × Option Int)) (m : Nat), m ≤ b → (∀ r ∈ R, widO r.2 ≤ b) → R.foldl (fun m r => max m (widO r.2)) m ≤ b
  | [], _, h, _ => h
  | r :: R, m, h, hR => wmax_le R _ (by have := hR r (List.mem_cons_self ..); show max m (widO r.2) ≤ b; omega) fun x hx => hR x (List.mem_cons_of_mem _ hx)
theorem strAt_mem {α : Type} : ∀ (R : List (Int × α)) (row : Int) (v : α), strAt R row = some v → ∃ r ∈ R, r.2 = v
  | [], _, _, h => nomatch h
  | (l, v0) :: r, row, v, h => by
    have h : (if row < l then some v0 else strAt r (row - l)) = some v := h
    by_cases hl : row < l
    · rw [if_pos hl] at h
      exact ⟨(l, v0), List.mem_cons_self .., Option.some.inj h⟩
    · rw [if_neg hl] at h
      obtain ⟨x, hx, e⟩ := strAt_mem r (row - l) v h
      exact ⟨x, List.mem_cons_of_mem _ hx, e⟩
theorem bitsI_range (w : Nat) (v : Int) : (List.range w).map (fun p => bitI v p) = bitsI w v := by
  apply List.ext_getElem?
  intro p
  by_cases h : p < w
  · rw [bitsI_get w v p h, List.getElem?_map, List.getElem?_range h]; rfl
  · rw [List.getElem?_eq_none (by simp; omega), List.getElem?_eq_none (by rw [bitsI_len]; omega)]
theorem twos_fit {w : Nat} {v : Int} (h : widI v ≤ w) : twos ((List.range w).map fun p => bitI v p) = v := by
  have h1 := widI_pos v
  obtain ⟨k, rfl⟩ : ∃ k, w = k + 1 := ⟨w - 1, by omega⟩
  obtain ⟨a, b⟩ := widI_fit v
  have c := pow_up (p := widI v - 1) (q := k) (by omega)
  rw [bitsI_range, twos_bitsI k v (by omega) (by omega)]
theorem Cm.congr {K : Frag} {H : Hp} {a : Addr} {n : Int} {f g : Int → Option Int} {S : List Int} (h : Cm K H a n f S) (e : ∀ row, 0 ≤ row → row < n → f row = g row) : Cm K H a n g S := by
  obtain ⟨cf, n0, kn, dx, pr, q, M, sl, ⟨es, b1, b2, b3⟩, hq, bM, ne, lM, num, wide⟩ := h
  exact ⟨cf, n0, kn, dx, pr, q, M, sl, ⟨es, b1, b2, fun row r0 r1 => by rw [b3 row r0 r1]; show (f row).isSome = _; rw [e row r0 r1]⟩, hq, bM, ne, lM, fun row r0 r1 => by rw [num row r0 r1, e row r0 r1], fun hl => by
    obtain ⟨row, r0, r1, hw⟩ := wide hl
    exact ⟨row, r0, r1, by rw [← e row r0 r1]; exact hw⟩⟩
def sp_Column_of_runs (K : Frag) : Sp := fun vs H Q E => ∃ (p : Addr) (ys : List V) (R : List (Int × Option Int)), vs = [.ref p] ∧ SqA K H p ys ∧ Runs K H ys R ∧ R.length ≤ 900 ∧ (∀ r ∈ R, widO r.2 ≤ 900) ∧
  ((∀ r ∈ R, 0 ≤ r.1) → ∀ z H', Same H H' → H z = none → Cm K H' z (total R) (runF R) (0 :: sums 0 R) → Q (.ref z) H') ∧ (¬ (∀ r ∈ R, 0 ≤ r.1) → XF K "BadColumn" → E (.ref (He.ga K "BadColumn")) none H)
theorem bs_congr {K : Frag} {H : Hp} {z : Addr} {n : Int} {f g : Int → Bool} {S : List Int} (h : Bs K H z n f S) (e : ∀ row, 0 ≤ row → row < n → f row = g row) : Bs K H z n g S := let ⟨es, a, b, c⟩ := h; ⟨es, a, b, fun row r0 r1 => by rw [c row r0 r1, e row r0 r1]⟩
theorem runs_tail {K : Frag} {E : XK} {Q : VK} {p : Addr} {ys : List V} {R : List (Int × Option Int)} {H : Hp} {k1 k2 : Option V} (hp : SqA K H p ys) (hR : Runs K H ys R) (lR : R.length ≤ 900) (hw : ∀ r ∈ R, widO r.2 ≤ 900) (pos : ∀ r ∈ R, 0 ≤ r.1)
    (good : ∀ z H', Same H H' → H z = none → Cm K H' z (total R) (runF R) (0 :: sums 0 R) → Q (.ref z) H') :
    t_Column_of_runs_2 K E { nx := fun _ H' => Q .non H', rt := Q } [some (.ref p), some (.int (wmax R : Nat)), k1, k2, none, none, none] H := by
  have kn : Kn (0 :: sums 0 R) := ⟨List.mem_cons_self .., by rw [List.length_cons, sums_len]; omega⟩
  have w1 : 1 ≤ wmax R := (wmax_ge R 1).1
  have w9 : wmax R ≤ 900 := wmax_le R 1 (by decide) hw
  have n0 : 0 ≤ total R := by
    have : ∀ L : List (Int × Option Int), (∀ r ∈ L, 0 ≤ r.1) → 0 ≤ total L := by
      intro L
      induction L with
      | nil => intro _; exact Int.le_refl _
      | cons r L ih =>
        intro h
        have h1 := ih fun x hx => h x (List.mem_cons_of_mem _ hx)
        have h2 := h r (List.mem_cons_self ..)
        show 0 ≤ r.1 + total L
        omega
    exact this R pos
  walk_at "gx"
  refine lc_tup R (fun r => .int r.1) (fun r => vO r.2) (fun D r y H => ∃ a, y = .ref a ∧ SqT K H a [.int r.1, .int (b2n r.2.isSome)]) hp hR (by rw [sizeLine_eq]; omega) ?_ ?_ ?_
  · rintro D r y H1 H2 l hD ⟨a, rfl, ha⟩ e
    exact ⟨a, rfl, e.tup ha hD⟩
  · intro D l j r H1 A nD hD hj e1 hA
    refine ⟨rfl, ?_⟩
    obtain ⟨ln, v⟩ := r
    cases v with
    | none =>
      walk_at "gx"
      refine ⟨rfl, ?_⟩
      walk_at "gx"
      exact ⟨fun a H2 e2 ha => hA _ _ e2 ⟨a, rfl, ha⟩⟩
    | some v =>
      walk_at "gx"
      refine ⟨rfl, ?_⟩
      walk_at "gx"
      exact ⟨fun a H2 e2 ha => hA _ _ e2 ⟨a, rfl, ha⟩⟩
  intro D zs H1 nD hD hP e1
  have hS : Strs K H1 zs (presT R) := paired_mapL (R := fun (t : Int × Bool) (y : V) => ∃ a, y = V.ref a ∧ SqT K H1 a [V.int t.1, V.int (b2n t.2)]) (f := fun r : Int × Option Int => (r.1, r.2.isSome)) hP
  walk_at "gx"
  refine ⟨D, zs, presT R, rfl, hD, hS, by unfold presT; rw [List.length_map]; exact lR, fun t ht => ?_, fun pr H2 e2 npr bpr => ?_⟩
  · obtain ⟨r, hr, rfl⟩ := List.mem_map.mp ht
    exact pos r hr
  have bpr : Bs K H2 pr (total R) (fun row => (runF R row).isSome) (0 :: sums 0 R) := by
    unfold presT at bpr
    rw [total_map (fun v : Option Int => v.isSome), sums_map (fun v : Option Int => v.isSome)] at bpr
    exact bs_congr bpr fun row _ _ => strB_pres R row
  have e12 := e1.trans e2
  walk_at "gx"
  refine ⟨fun d nd => ?_⟩
  have e3 := same_new (o := .lst ([] : List V)) nd
  have e13 := e12.trans e3
  walk_at "gx"
  refine for_rng (fun i σ H4 => ∃ (M : List Slf) (k1 k2 k3 : Option V), σ = [some (.ref p), some (.int (wmax R : Nat)), k1, k2, some (.ref pr), some (.ref d), k3] ∧ SameX d (upd H2 d (.lst [])) H4 ∧ H4 d = some (.lst (M.map vF)) ∧ Bss K H4 (total R) (0 :: sums 0 R) M ∧ M.length = i ∧ (∀ row, bitsF M row = (List.range i).map fun j => bitO (runF R row) j))
    ⟨[], k1, k2, none, rfl, SameX.refl _ _, upd_same, (fun _ z => nomatch z), rfl, fun _ => rfl⟩ ?_ ?_
  · rintro i σ H4 hi ⟨M, k1, k2, k3, rfl, e4, hd4, bM, lM, inv⟩
    have e04 := SameX.same e13 e4 (same_none e12 nd)
    have hp4 := Same.sqa e04 hp
    have hR4 : Runs K H4 ys R := hR.same e04
    walk_at "gx"
    refine lc_tup R (fun r => .int r.1) (fun r => vO r.2) (fun D r y H => ∃ a, y = .ref a ∧ SqT K H a [.int r.1, .int (b2n (bitO r.2 i))]) hp4 hR4 (by rw [sizeLine_eq]; omega) ?_ ?_ ?_
    · rintro D r y H1 H2 l hD ⟨a, rfl, ha⟩ e
      exact ⟨a, rfl, e.tup ha hD⟩
    · intro D l j r H5 A nD hD hj e5 hA
      refine ⟨rfl, ?_⟩
      walk_at "gx"
      refine ⟨r.2, i, rfl, ?_⟩
      walk_at "gx"
      exact ⟨fun a H2 e2 ha => hA _ _ e2 ⟨a, rfl, ha⟩⟩
    intro D2 zs2 H5 nD2 hD2 hP2 e5
    have hS2 : Strs K H5 zs2 (bitT R i) := paired_mapL (R := fun (t : Int × Bool) (y : V) => ∃ a, y = V.ref a ∧ SqT K H5 a [V.int t.1, V.int (b2n t.2)]) (f := fun r : Int × Option Int => (r.1, bitO r.2 i)) hP2
    have hd5 := e5 _ _ hd4
    walk_at "gx"
    refine ⟨D2, zs2, bitT R i, rfl, hD2, hS2, by unfold bitT; rw [List.length_map]; exact lR, fun t ht => ?_, fun b H6 e6 nb bb => ?_⟩
    · obtain ⟨r, hr, rfl⟩ := List.mem_map.mp ht
      exact pos r hr
    have bb : Bs K H6 b (total R) (fun row => bitO (runF R row) i) (0 :: sums 0 R) := by
      unfold bitT at bb
      rw [total_map (fun v : Option Int => bitO v i), sums_map (fun v : Option Int => bitO v i)] at bb
      exact bs_congr bb fun row _ _ => strB_bit R i row
    have e46 := e5.trans e6
    have hd6 := e6 _ _ hd5
    have lM2 : (M.map vF).length = i := by rw [List.length_map, lM]
    walk_at "go"
    have u7 : SameX d H6 (L2.upd H6 d (.lst (M.map vF ++ [V.ref b]))) := SameX.upd
    refine ⟨M ++ [(b, fun row => bitO (runF R row) i)], _, _, _, rfl, (e4.then e46).trans u7, by rw [upd_same, List.map_append]; rfl, fun t ht => ?_, by simp [lM], fun row => ?_⟩
    · rcases List.mem_append.mp ht with ht | ht
      · exact ((bM t ht).same e46).x u7 hd6
      · rw [List.mem_singleton.mp ht]; exact bb.x u7 hd6
    · have e8 : bitsF (M ++ [(b, fun row => bitO (runF R row) i)]) row = bitsF M row ++ [bitO (runF R row) i] := by unfold bitsF; rw [List.map_append]; rfl
      rw [e8, inv row, List.range_succ, List.map_append]; rfl
  · rintro σ H4 ⟨M, k1, k2, k3, rfl, e4, hd4, bM, lM, inv⟩
    rw [Int.toNat_natCast] at lM inv
    have e04 := SameX.same e13 e4 (same_none e12 nd)
    have bpr4 := (bpr.same e3).x e4 upd_same
    have neM : M ≠ [] := fun z => by rw [z] at lM; simp at lM; omega
    walk_at "gx"
    refine fun cf => ?_
    refine mk_column cf bpr4 (.inl (SqL.of hd4)) bM (by omega) kn n0 (fun _ x H5 e5 nx hc => ?_) (fun em => absurd em neM)
    refine good x H5 (e04.trans e5) (same_none e04 nx) (hc.congr fun row r0 r1 => ?_)
    unfold colF
    have hs : (fun row => (runF R row).isSome) row = (runF R row).isSome := rfl
    cases hv : runF R row with
    | none =>
      rw [hs, hv]; rfl
    | some v =>
      rw [hs, hv]
      show (if true = true then some (twos (bitsF M row)) else none) = some v
      rw [if_pos rfl, inv row, hv]
      have hm : ∃ r ∈ R, r.2 = some v := by
        unfold runF at hv
        cases hs : strAt R row with
        | none => rw [hs] at hv; cases hv
        | some o =>
          rw [hs] at hv
          obtain ⟨r, hr, e⟩ := strAt_mem R row o hs
          exact ⟨r, hr, by rw [e]; exact hv⟩
      obtain ⟨r, hr, e⟩ := hm
      have hle : widI v ≤ wmax R := by
        have := (wmax_ge R 1).2 r hr
        rw [e] at this
        exact this
      show some (twos ((List.range (wmax R)).map fun j => bitI v j)) = some v
      rw [twos_fit hle]
theorem pure_Column_of_runs {K : Frag} (vs : List V) (H : Hp) (Q : VK) (E : XK) (h : sp_Column_of_runs K vs H Q E) : t_Column_of_runs K E { nx := fun _ H' => Q .non H', rt := Q } (start ["runs", "width", "length", "value", "presence", "slices", "place"] vs) H := by
  obtain ⟨p, ys, R, rfl, hp, hR, lR, hw, good, bad⟩ := h
  walk_at "gx"
  refine for_seq (fun i σ H1 => H1 = H ∧ ∃ (k1 k2 : Option V), σ = [some (.ref p), some (.int (wmax (R.take i) : Nat)), k1, k2, none, none, none] ∧ ∀ r ∈ R.take i, 0 ≤ r.1) hp ⟨rfl, none, none, rfl, fun _ z => nomatch z⟩ (fun i σ H' _ z => by rw [z.1]; exact Same.stay (Same.refl _)) ?_ ?_
  · rintro i v σ H1 hi ⟨rfl, k1, k2, rfl, inv⟩
    obtain ⟨r, hg, a, rfl, ha⟩ := paired_get hR hi
    refine ⟨a, [.int r.1, vO r.2], rfl, ha, rfl, _, _, rfl, _, _, rfl, rfl, ?_⟩
    walk_at "gx"
    refine ifd (fun h1 => ?_) (fun h1 => ?_)
    · exact fun xf => bad (fun z => by have := z r (List.mem_of_getElem? hg); omega) xf
    · walk_at "gx"
      refine ⟨r.2, rfl, ?_⟩
      have st : wmax (R.take (i + 1)) = max (wmax (R.take i)) (widO r.2) := foldl_take (fun m (r : Int × Option Int) => max m (widO r.2)) _ hg
      refine ⟨rfl, some (.int r.1), some (vO r.2), ?_, fun x hx => ?_⟩
      · have e : (max ((wmax (R.take i) : Nat) : Int) ((widO r.2 : Nat) : Int)) = ((wmax (R.take (i + 1)) : Nat) : Int) := by rw [st]; omega
        rw [← e]; rfl
      · rw [List.take_succ, hg] at hx
        rcases List.mem_append.mp hx with hx | hx
        · exact inv x hx
        · have : x = r := by simpa using hx
          rw [this]; omega
  · rintro σ H1 ⟨rfl, k1, k2, rfl, inv⟩
    rw [← Paired.length hR, List.take_length] at inv
    rw [← Paired.length hR, List.take_length]
    exact ⟨runs_tail hp hR lR hw inv (good inv)⟩
end S
namespace S
open PySem PySem.Spec PyProof.Rows L2
def t_number_at_b1 (K : Frag) (E : XK) : TS :=
    dIfS (dCmpT (oInO K "Bitmap" (sp_Bitmapdd_containsdd K) E) (dVar 1) (dVar 4)) (tAsg (tOp (oAdd K) (dVar 2) (dCall (sp_weight_of K) (EW E) (tCons (dVar 3) (tCons (tCB (cLen K) (tCons (dVar 0) (tNil))) (tNil))))) (gName 2)) (tNext)
def t_number_at_2 (K : Frag) (E : XK) : TS :=
    tRet (dVar 2)
def t_number_at_1 (K : Frag) (E : XK) : TS :=
    tSeq (dFor (iEn K (dVar 0)) (gTup K 2 (gCons (gName 3) (gCons (gName 4) (gNil)))) (t_number_at_b1 K E))
    (stop (t_number_at_2 K E))
def t_number_at (K : Frag) (E : XK) : TS :=
    tSeq (tAsg (tC (.int 0)) (gName 2))
    (stop (t_number_at_1 K E))
end S
namespace S
open PySem PySem.Spec PyProof.Rows L2
def t_Column_slice_at_2 (K : Frag) (E : XK) : TS :=
    tRet (tOp (oIx K) (dAt K "slices" (dVar 0)) (tUn uNeg (tC (.int 1))))
def t_Column_slice_at_1 (K : Frag) (E : XK) : TS :=
    tSeq (dIfS (dCmpT oLt (dVar 1) (dAt K "width" (dVar 0))) (tRet (tOp (oIx K) (dAt K "slices" (dVar 0)) (dVar 1))) (tNext))
    (stop (t_Column_slice_at_2 K E))
def t_Column_slice_at (K : Frag) (E : XK) : TS :=
    tSeq (dIfS (dCmpT oLt (dVar 1) (tC (.int 0))) (tRet (dAt K "presence" (dVar 0))) (tNext))
    (stop (t_Column_slice_at_1 K E))
end S
-- fn: number_at Column.slice_at
-- law: k15
-- in: Bitmap
-- deps: Column_init width_for Bitmap_contains
namespace S
open PySem PySem.Spec PyProof.Rows L2
def sp_number_at (K : Frag) : Sp := fun vs H Q _ => ∃ (q : Addr) (row n : Int) (M : List Slf) (S : List Int), vs = [.ref q, .int row] ∧ SqT K H q (M.map vF) ∧ Bss K H n S M ∧ 0 ≤ row ∧ row < n ∧ M.length ≤ 1000 ∧ Kn S ∧ ∀ H', Same H H' → Q (.int (twos (bitsF M row))) H'
theorem bitsF_getA {M : List Slf} {i : Nat} {t : Slf} (row : Int) (h : M[i]? = some t) : (bitsF M row).drop i = t.2 row :: (bitsF M row).drop (i + 1) := by
  obtain ⟨hi, e⟩ := List.getElem?_eq_some_iff.mp h
  have hl : i < (bitsF M row).length := by unfold bitsF; rw [List.length_map]; exact hi
  rw [List.drop_eq_getElem_cons hl]
  congr 1
  have key : ∀ hl : i < (M.map fun t : Slf => t.2 row).length, (M.map fun t : Slf => t.2 row)[i]'hl = t.2 row := fun hl => by rw [List.getElem_map, e]
  exact key hl
theorem bitsF_lenA (M : List Slf) (row : Int) : (bitsF M row).length = M.length := by unfold bitsF; rw [List.length_map]
theorem bitsF_neA {M : List Slf} (h : M ≠ []) (row : Int) : bitsF M row ≠ [] := by unfold bitsF; simpa using h
theorem pure_number_at {K : Frag} (vs : List V) (H : Hp) (Q : VK) (E : XK) (h : sp_number_at K vs H Q E) : t_number_at K E { nx := fun _ H' => Q .non H', rt := Q } (start ["slices", "row", "number", "place", "bitmap"] vs) H := by
  obtain ⟨q, row, n, M, S, rfl, hq, hM, r0, r1, lM, kn, k⟩ := h
  have hall : twos (bitsF M row) = accP M.length 0 (bitsF M row) := by
    have := acc_all (bitsF M row)
    rw [bitsF_lenA] at this
    exact this.symm
  walk_at "gx"
  refine for_en (fun i σ H1 => ∃ (x : Int) (k1 k2 : Option V), σ = [some (.ref q), some (.int row), some (.int x), k1, k2] ∧ Same H H1 ∧ x + accP M.length i ((bitsF M row).drop i) = twos (bitsF M row)) hq ⟨0, none, none, rfl, Same.refl _, by rw [List.drop_zero, Int.zero_add, hall]⟩ (fun i σ H' _ z => let ⟨_, _, _, _, e, _⟩ := z; Same.tup e hq) ?_ ?_
  · rintro i v σ H1 hi ⟨x, k1, k2, rfl, e1, hx⟩ T hT
    obtain ⟨t, hg, rfl⟩ := map_get hi
    have hil : i < M.length := (List.getElem?_eq_some_iff.mp hg).1
    rw [bitsF_getA row hg] at hx
    have hx : x + ((if t.2 row = true then (if i + 1 = M.length then -(2 ^ i : Int) else 2 ^ i) else 0) + accP M.length (i + 1) ((bitsF M row).drop (i + 1))) = twos (bitsF M row) := hx
    have eT := same_new (o := .tup [V.int (i : Int), vF t]) hT
    have e2 := e1.trans eT
    obtain ⟨es, hb, hs, hes⟩ := (hM t (List.mem_of_getElem? hg)).same e2
    obtain ⟨_, _, hE, dx, u, sl, hu⟩ := id hb
    have hq2 := Same.tup e2 hq
    refine ⟨T, [.int i, vF t], rfl, SqT.of upd_same, rfl, _, _, rfl, _, _, rfl, rfl, ?_⟩
    have len := asc_len es S hE.1 hs
    have hk := kn.len
    have er : rowIn n es row = t.2 row := by
      unfold rowIn
      rw [decide_eq_true r0, decide_eq_true r1, Bool.true_and, Bool.true_and, hes row r0 r1]
    walk_at "gx"
    refine .of sl ⟨t.1, n, es, row, rfl, hb, by omega, fun H3 e3 => ?_⟩
    rw [er]
    have hq3 := Same.tup e3 hq2
    cases hb2 : t.2 row
    · rw [hb2, if_neg Bool.false_ne_true, Int.zero_add] at hx
      exact ⟨x, _, _, rfl, e2.trans e3, hx⟩
    · rw [hb2, if_pos rfl] at hx
      walk_at "gx"
      refine ⟨i, M.length, by rw [List.length_map], by omega, ?_⟩
      refine ⟨x + (if i + 1 = M.length then -(2 ^ i : Int) else 2 ^ i), _, _, rfl, e2.trans e3, by rw [Int.add_assoc]; exact hx⟩
  · rintro σ H1 ⟨x, k1, k2, rfl, e1, hx⟩
    rw [List.length_map] at hx
    have d1 : (bitsF M row).drop M.length = [] := List.drop_eq_nil_of_le (by rw [bitsF_lenA]; omega)
    rw [d1] at hx
    have hx : x + 0 = _ := hx
    rw [Int.add_zero] at hx
    subst hx
    exact ⟨k H1 e1⟩
def sp_Column_slice_at (K : Frag) : Sp := fun vs H Q _ => ∃ (c : Addr) (n p : Int) (vf : Int → Option Int) (S : List Int), vs = [.ref c, .int p] ∧ Cm K H c n vf S ∧ -1 ≤ p ∧ ∀ z, Bs K H z n (fun row => match vf row with
    | none => false
    | some v => if p < 0 then true else bitI v p.toNat) S → Q (.ref z) H
theorem bitI_zero (p : Nat) : bitI 0 p = false := by unfold bitI; simp
theorem Bs.congr {K : Frag} {H : Hp} {z : Addr} {n : Int} {f g : Int → Bool} {S : List Int} (h : Bs K H z n f S) (e : ∀ row, 0 ≤ row → row < n → f row = g row) : Bs K H z n g S := let ⟨es, a, b, c⟩ := h; ⟨es, a, b, fun row r0 r1 => by rw [c row r0 r1, e row r0 r1]⟩
theorem pure_Column_slice_at {K : Frag} (vs : List V) (H : Hp) (Q : VK) (E : XK) (h : sp_Column_slice_at K vs H Q E) : t_Column_slice_at K E { nx := fun _ H' => Q .non H', rt := Q } (start ["self", "place"] vs) H := by
  obtain ⟨c, n, p, vf, S, rfl, ⟨cf, n0, kn, dx, pr, q, M, sl, bp, hq, bM, ne, lM, num, wide⟩, hp, k⟩ := h
  have bitM : ∀ (i : Nat) (t : Slf), M[i]? = some t → ∀ row, 0 ≤ row → row < n → ∀ j : Nat, min j (M.length - 1) = i → t.2 row = match vf row with
      | none => false
      | some v => bitI v j := fun i t hg row r0 r1 j hj => by
    have h1 := twos_bit (bitsF M row) j (bitsF_neA ne row)
    rw [bitsF_lenA, hj] at h1
    have h2 : (bitsF M row)[i]? = some (t.2 row) := by unfold bitsF; rw [List.getElem?_map, hg]; rfl
    rw [h2, num row r0 r1] at h1
    have h1 : bitI ((vf row).getD 0) j = t.2 row := h1
    cases hv : vf row with
    | none => rw [hv] at h1; rw [← h1]; exact bitI_zero j
    | some v => rw [hv] at h1; exact h1.symm
  have lne : M.length ≠ 0 := fun z => ne (List.eq_nil_of_length_eq_zero z)
  walk_at "gx"
  refine ifd (fun h => ?_) (fun h => ?_)
  · refine Atr.sl cf sl (i := 0) rfl rfl ?_
    refine k pr (bp.congr fun row r0 r1 => ?_)
    cases hv : vf row with
    | none => rfl
    | some v => show true = if p < 0 then true else _; rw [if_pos h]
  obtain ⟨j, rfl⟩ := Int.eq_ofNat_of_zero_le (show 0 ≤ p by omega)
  walk_at "gx"
  refine Atr.sl cf sl (i := 3) rfl rfl ?_
  refine ifd (fun h2 => ?_) (fun h2 => ?_)
  · have hj : j < M.length := by omega
    have hg : M[j]? = some M[j] := List.getElem?_eq_getElem hj
    have hm := List.getElem_mem hj
    generalize M[j] = t at *
    have a1 : atI (M.map vF) (j : Int) = some (.ref t.1) := atI_nat (by rw [List.getElem?_map, hg]; rfl)
    refine Atr.sl cf sl (i := 2) rfl rfl ?_
    walk_at "gx"
    refine k t.1 ((bM t hm).congr fun row r0 r1 => ?_)
    rw [bitM j t hg row r0 r1 j (by omega)]
    cases hv : vf row with
    | none => rfl
    | some v => show _ = if (j : Int) < 0 then true else bitI v ((j : Int)).toNat; rw [if_neg (by omega), Int.toNat_natCast]
  · obtain ⟨A, t, rfl⟩ := one_last M ne
    have a1 : atI ((A ++ [t]).map vF) (-1) = some (.ref t.1) := by rw [List.map_append]; exact atI_last
    have hg : (A ++ [t])[A.length]? = some t := by simp
    refine ⟨?_⟩
    refine Atr.sl cf sl (i := 2) rfl rfl ?_
    walk_at "gx"
    refine k t.1 ((bM t (by simp)).congr fun row r0 r1 => ?_)
    rw [bitM A.length t hg row r0 r1 j (by simp at h2 ⊢; omega)]
    cases hv : vf row with
    | none => rfl
    | some v => show _ = if (j : Int) < 0 then true else bitI v ((j : Int)).toNat; rw [if_neg (by omega), Int.toNat_natCast]
end S
namespace S
open PySem PySem.Spec PyProof.Rows L2
def t_Column_of_values (K : Frag) (E : XK) : TS :=
    tRet (dStat K (sp_Column_of_runs K) (EW E) (tCons (dLc (iSeq K (dVar 0)) (gName 1) (tYes) (dTup K (tCons (tC (.int 1)) (tCons (dVar 1) (tNil)))) [1]) (tNil)))
end S
-- fn: Column.of_values
-- law: k15
-- deps: Column_of_runs
namespace S
open PySem PySem.Spec PyProof.Rows L2
def ones (L : List (Option Int)) : List (Int × Option Int) := L.map fun v => (1, v)
theorem total_ones : ∀ L : List (Option Int), total (ones L) = L.length
  | [] => rfl
  | v :: r => by show 1 + total (ones r) = ((r.length + 1 : Nat) : Int); rw [total_ones r]; omega
theorem strAt_ones : ∀ (L : List (Option Int)) (j : Nat), strAt (ones L) (j : Int) = L[j]?
  | [], _ => rfl
  | v :: r, 0 => rfl
  | v :: r, j + 1 => by
    show (if ((j + 1 : Nat) : Int) < 1 then _ else strAt (ones r) (((j + 1 : Nat) : Int) - 1)) = r[j]?
    rw [if_neg (by omega), show ((j + 1 : Nat) : Int) - 1 = (j : Int) by omega, strAt_ones r j]
theorem runF_ones (L : List (Option Int)) (j : Nat) : runF (ones L) (j : Int) = (L[j]?).getD none := by unfold runF; rw [strAt_ones]
def sp_Column_of_values (K : Frag) : Sp := fun vs H Q _ => ∃ (p : Addr) (L : List (Option Int)), vs = [.ref p] ∧ SqA K H p (L.map vO) ∧ L.length ≤ 900 ∧ (∀ v ∈ L, widO v ≤ 900) ∧
  ∀ z H', Same H H' → H z = none → Cm K H' z (L.length : Nat) (runF (ones L)) (0 :: sums 0 (ones L)) → Q (.ref z) H'
theorem pure_Column_of_values {K : Frag} (vs : List V) (H : Hp) (Q : VK) (E : XK) (h : sp_Column_of_values K vs H Q E) : t_Column_of_values K E { nx := fun _ H' => Q .non H', rt := Q } (start ["values", "value"] vs) H := by
  obtain ⟨p, L, rfl, hp, lL, hw, q⟩ := h
  walk_at "gx"
  refine lc_dat L vO (fun D v y H => ∃ a, y = .ref a ∧ SqT K H a [.int 1, vO v]) hp (by rw [sizeLine_eq]; omega) ?_ ?_ ?_
  · rintro D v y H1 H2 l hD ⟨a, rfl, ha⟩ e
    exact ⟨a, rfl, e.tup ha hD⟩
  · intro D l j v H1 A nD hD hj e1 hA
    refine ⟨rfl, ?_⟩
    walk_at "gx"
    exact ⟨fun a H2 e2 ha => hA _ _ e2 ⟨a, rfl, ha⟩⟩
  intro D zs H1 nD hD hP e1
  have hR : Runs K H1 zs (ones L) := paired_mapL (R := fun (r : Int × Option Int) (y : V) => ∃ a, y = V.ref a ∧ SqT K H1 a [V.int r.1, vO r.2]) (f := fun v : Option Int => ((1 : Int), v)) hP
  refine ⟨D, zs, ones L, rfl, .inl (SqL.of hD), hR, by unfold ones; rw [List.length_map]; exact lL, fun r hr => ?_, fun _ z H2 e2 nz hz => ?_, fun nb => absurd (fun r hr => ?_) nb⟩
  · obtain ⟨v, hv, rfl⟩ := List.mem_map.mp hr
    exact hw v hv
  · rw [total_ones] at hz
    refine q z H2 (e1.trans e2) ?_ hz
    cases e : H z with
    | none => rfl
    | some o => rw [e1 _ _ e] at nz; cases nz
  · obtain ⟨v, hv, rfl⟩ := List.mem_map.mp hr
    show (0 : Int) ≤ 1
    decide
end S
namespace S
open PySem PySem.Spec PyProof.Rows L2
def t__law_number_6 (K : Frag) (E : XK) : TS :=
    tRet (tOp oSub (tOp oMod (tCB cInt (tCons (tOp (oAdd K) (dVar 5) (dVar 3)) (tNil))) (tOp oMulA (tC (.int 2)) (dVar 3))) (dVar 3))
def t__law_number_5 (K : Frag) (E : XK) : TS :=
    tSeq (dIfS (dCmpT oGt (dVar 4) (tC (.int 2))) (tAsg (dCall (sp__law_wide K) (EW E) (tCons (dVar 0) (tCons (dVar 1) (tCons (tOp oMulA (tC (.int 2)) (dVar 3)) (tNil))))) (gName 5)) (tNext))
    (stop (t__law_number_6 K E))
def t__law_number_4 (K : Frag) (E : XK) : TS :=
    tSeq (dIfS (dCmpT (oEq K) (dVar 4) (tC (.int 2))) (tSeq (tAsg (tOp oShl (tC (.int 1)) (dCall (sp__law_draw K) (EW E) (tCons (dVar 0) (tCons (dVar 1) (tCons (dVar 2) (tNil)))))) (gName 6))
    (tAsg (tOp (oIx K) (dLst (tCons (tOp oSub (dVar 6) (tC (.int 1))) (tCons (dVar 6) (tCons (tUn uNeg (dVar 6)) (tCons (tOp oSub (tUn uNeg (tC (.int 1))) (dVar 6)) (tNil)))))) (dVar 5)) (gName 5))) (tNext))
    (stop (t__law_number_5 K E))
def t__law_number_3 (K : Frag) (E : XK) : TS :=
    tSeq (dIfS (dCmpT (oEq K) (dVar 4) (tC (.int 1))) (tAsg (tOp oSub (tUn uNeg (tC (.int 1))) (dVar 5)) (gName 5)) (tNext))
    (stop (t__law_number_4 K E))
def t__law_number_2 (K : Frag) (E : XK) : TS :=
    tSeq (tAsg (dCall (sp__law_draw K) (EW E) (tCons (dVar 0) (tCons (dVar 1) (tCons (tC (.int 4)) (tNil))))) (gName 5))
    (stop (t__law_number_3 K E))
def t__law_number_1 (K : Frag) (E : XK) : TS :=
    tSeq (tAsg (dCall (sp__law_draw K) (EW E) (tCons (dVar 0) (tCons (dVar 1) (tCons (tC (.int 5)) (tNil))))) (gName 4))
    (stop (t__law_number_2 K E))
def t__law_number (K : Frag) (E : XK) : TS :=
    tSeq (tAsg (tOp oShl (tC (.int 1)) (tOp oSub (dVar 2) (tC (.int 1)))) (gName 3))
    (stop (t__law_number_1 K E))
end S
-- fn: _law_number
-- law: k15
-- deps: D0 D1 _law_draw _law_wide
namespace S
open PySem PySem.Spec PyProof.Rows L2
/-- a number of so many places -/
def sp__law_number (K : Frag) : Sp := fun vs H Q _ => ∃ (a st : Addr) (p : Int), vs = [.ref a, .ref st, .int p] ∧ Ctx K H a st ∧ 1 ≤ p ∧ p ≤ 100 ∧
  ∀ (r : Int) (H' : Hp), -(2 ^ (p - 1).toNat : Int) ≤ r → r < 2 ^ (p - 1).toNat → Ctx K H' a st → SameX st H H' → Q (.int r) H'
theorem pure__law_number {K : Frag} (vs : List V) (H : Hp) (Q : VK) (E : XK) (h : sp__law_number K vs H Q E) : t__law_number K E { nx := fun _ H' => Q .non H', rt := Q } (start ["_law_script", "_law_state", "_law_places", "_law_half", "_law_kind", "_law_number_here", "_law_power"] vs) H := by
  obtain ⟨a, st, p, rfl, hc, p1, p2, q⟩ := h
  have hp0 : (0 : Int) < 2 ^ (p - 1).toNat := Int.pow_pos (by decide)
  have one : (1 : Int) * 2 ^ (p - 1).toNat = 2 ^ (p - 1).toNat := Int.one_mul _
  walk_at "gx"
  show t__law_number_1 K E _ [some (.ref a), some (.ref st), some (.int p), some (.int ((1 : Int) * 2 ^ (p - 1).toNat)), none, none, none] H
  rw [one]
  generalize (2 ^ (p - 1).toNat : Int) = h2 at *
  have fin : ∀ (H1 : Hp) (k x : Int) (pw : Option V), Ctx K H1 a st → SameX st H H1 → t__law_number_6 K E { nx := fun _ H' => Q .non H', rt := Q } [some (.ref a), some (.ref st), some (.int p), some (.int h2), some (.int k), some (.int x), pw] H1 := by
    intro H1 k x pw c1 e1
    walk_at "gx"
    have m0 := Int.emod_nonneg (x + h2) (b := 2 * h2) (by omega)
    have m1 := Int.emod_lt_of_pos (x + h2) (b := 2 * h2) (by omega)
    exact q _ _ (by dsimp only; omega) (by dsimp only; omega) c1 e1
  have s5 : ∀ (H1 : Hp) (k x : Int) (pw : Option V), Ctx K H1 a st → SameX st H H1 → t__law_number_5 K E { nx := fun _ H' => Q .non H', rt := Q } [some (.ref a), some (.ref st), some (.int p), some (.int h2), some (.int k), some (.int x), pw] H1 := by
    intro H1 k x pw c1 e1
    walk_at "gx"
    refine ifd (fun hk => ?_) (fun hk => ?_)
    · walk_at "gx"
      refine ⟨a, st, _, rfl, c1, by omega, fun r H2 r0 r1 c2 e2 => ?_⟩
      exact ⟨fin H2 k r pw c2 (e1.trans e2)⟩
    · exact ⟨fin H1 k x pw c1 e1⟩
  refine ⟨a, st, _, rfl, hc, by decide, fun kd H1 k0 k1 c1 e1 => ?_⟩
  walk_at "gx"
  refine ⟨a, st, _, rfl, c1, by decide, fun x H2 x0 x1 c2 e2 => ?_⟩
  have e12 := e1.trans e2
  have x1' : x < 4 := x1
  have s4 : ∀ y : Int, (kd = 2 → y = x) → t__law_number_4 K E { nx := fun _ H' => Q .non H', rt := Q } [some (.ref a), some (.ref st), some (.int p), some (.int h2), some (.int kd), some (.int y), none] H2 := by
    intro y hy
    walk_at "gx"
    refine ifd (fun hk => ?_) (fun hk => ?_)
    · have ey := hy hk
      subst ey
      walk_at "gx"
      refine ⟨a, st, _, rfl, c2, by omega, fun b H3 b0 b1 c3 e3 => ?_⟩
      have b1' : b < p := b1
      walk_at "gx"
      refine ⟨fun l nl => ?_⟩
      have e4 := same_new (o := .lst [.int ((1 : Int) * 2 ^ b.toNat - 1), .int ((1 : Int) * 2 ^ b.toNat), .int (-((1 : Int) * 2 ^ b.toNat)), .int (-1 - (1 : Int) * 2 ^ b.toNat)]) nl
      obtain ⟨j, rfl⟩ := Int.eq_ofNat_of_zero_le x0
      have hj : j < 4 := by omega
      have c4 := c3.same e4
      have e14 := (e12.trans e3).then e4
      refine Rd.l upd_same ?_
      match j, hj with
      | 0, _ => exact S.At.of (atI_nat (j := 0) rfl) ⟨s5 _ _ _ _ c4 e14⟩
      | 1, _ => exact S.At.of (atI_nat (j := 1) rfl) ⟨s5 _ _ _ _ c4 e14⟩
      | 2, _ => exact S.At.of (atI_nat (j := 2) rfl) ⟨s5 _ _ _ _ c4 e14⟩
      | 3, _ => exact S.At.of (atI_nat (j := 3) rfl) ⟨s5 _ _ _ _ c4 e14⟩
    · exact ⟨s5 H2 kd y none c2 e12⟩
  walk_at "gx"
  refine ifd (fun hk => ?_) (fun hk => ?_)
  · exact ⟨s4 _ (fun z => by omega)⟩
  · exact ⟨s4 x (fun _ => rfl)⟩
end S
namespace S
open PySem PySem.Spec PyProof.Rows L2
def t__law_value_1 (K : Frag) (E : XK) : TS :=
    tRet (dCall (sp__law_number K) (EW E) (tCons (dVar 0) (tCons (dVar 1) (tCons (dVar 2) (tNil)))))
def t__law_value (K : Frag) (E : XK) : TS :=
    tSeq (dIfS (dCmpT (oEq K) (dCall (sp__law_draw K) (EW E) (tCons (dVar 0) (tCons (dVar 1) (tCons (tC (.int 4)) (tNil))))) (tC (.int 1))) (tRet (tC .non)) (tNext))
    (stop (t__law_value_1 K E))
end S
-- fn: _law_value
-- law: k15
-- deps: _law_number width_for Tw Column_of_runs
namespace S
open PySem PySem.Spec PyProof.Rows L2
def sp__law_value (K : Frag) : Sp := fun vs H Q _ => ∃ (a st : Addr) (p : Int), vs = [.ref a, .ref st, .int p] ∧ Ctx K H a st ∧ 1 ≤ p ∧ p ≤ 100 ∧
  ∀ (v : Option Int) (H' : Hp), (widO v : Int) ≤ p → Ctx K H' a st → SameX st H H' → Q (vO v) H'
theorem widI_le {r : Int} {k : Nat} (h0 : -(2 ^ k : Int) ≤ r) (h1 : r < 2 ^ k) : widI r ≤ k + 1 := by
  by_cases h : widI r ≤ k + 1
  · exact h
  · rcases widI_least (i := r) (by omega) with h2 | h2
    · have := pow_up (p := k) (q := widI r - 2) (by omega); omega
    · have := pow_up (p := k) (q := widI r - 2) (by omega); omega
theorem pure__law_value {K : Frag} (vs : List V) (H : Hp) (Q : VK) (E : XK) (h : sp__law_value K vs H Q E) : t__law_value K E { nx := fun _ H' => Q .non H', rt := Q } (start ["_law_script", "_law_state", "_law_places"] vs) H := by
  obtain ⟨a, st, p, rfl, hc, p1, p2, q⟩ := h
  walk_at "gx"
  refine ⟨a, st, _, rfl, hc, by decide, fun kd H1 k0 k1 c1 e1 => ?_⟩
  walk_at "gx"
  refine ifd (fun hk => ?_) (fun hk => ?_)
  · exact q none H1 (by show ((1 : Nat) : Int) ≤ p; omega) c1 e1
  · refine ⟨?_⟩
    refine ⟨a, st, p, rfl, c1, p1, p2, fun r H2 r0 r1 c2 e2 => ?_⟩
    refine q (some r) H2 ?_ c2 (e1.trans e2)
    have := widI_le r0 r1
    show ((widI r : Nat) : Int) ≤ p
    omega
def wmaxL (vs : List (Option Int)) : Nat := vs.foldl (fun m v => max m (widO v)) 1
theorem fit_iff {w : Nat} {v : Int} (hw : 1 ≤ w) : (v < -((1 : Int) * 2 ^ (((w : Int) - 1).toNat)) ∨ (1 : Int) * 2 ^ (((w : Int) - 1).toNat) ≤ v) ↔ w < widI v := by
  have e : ((w : Int) - 1).toNat = w - 1 := by omega
  rw [e, Int.one_mul]
  obtain ⟨a, b⟩ := widI_fit v
  constructor
  · intro h
    by_cases hl : w < widI v
    · exact hl
    · have := pow_up (p := widI v - 1) (q := w - 1) (by omega)
      omega
  · intro h
    have := pow_up (p := w - 1) (q := widI v - 2) (by omega)
    rcases widI_least (i := v) (by omega) with h2 | h2 <;> omega
end S
-- deps: D0 D1
namespace S
open PySem PySem.Spec PyProof.Rows L2
theorem dp_bls {K : Frag} {H : Hp} : ∀ ns : List Bool, DpAll K H (ns.map V.bl) (ns.map PyData.bool)
  | [] => .nil
  | n :: r => .cons (.bl n) (dp_bls r)
theorem can_bls : ∀ ns : List Bool, PyData.canLayAll0 (ns.map PyData.bool) = true
  | [] => rfl
  | n :: r => by
    show (PyData.canLay0 (.bool n) && PyData.canLayAll0 (r.map PyData.bool)) = true
    rw [can_bls r]; rfl
theorem dep_bls : ∀ ns : List Bool, PyData.depthAll (ns.map PyData.bool) = 0
  | [] => rfl
  | n :: r => by
    show max (PyData.depth (.bool n)) (PyData.depthAll (r.map PyData.bool)) = 0
    rw [dep_bls r]; rfl
theorem shp_bls (ns : List Bool) : SeqAt.shaped (.list (ns.map PyData.bool)) = true := by
  unfold SeqAt.shaped
  have e1 : PyData.canLay0 (.list (ns.map PyData.bool)) = true := can_bls ns
  have e2 : PyData.depth (.list (ns.map PyData.bool)) = 1 := by show PyData.depthAll _ + 1 = 1; rw [dep_bls]
  rw [e1, e2]; rfl
theorem eqv_bls : ∀ xs ys : List Bool, PyData.eqvAll (xs.map PyData.bool) (ys.map PyData.bool) = decide (xs = ys)
  | [], [] => rfl
  | [], _ :: _ => by simp [PyData.eqvAll]
  | _ :: _, [] => by simp [PyData.eqvAll]
  | x :: xs, y :: ys => by
    show (PyData.eqv (.bool x) (.bool y) && PyData.eqvAll (xs.map PyData.bool) (ys.map PyData.bool)) = _
    rw [eqv_bls xs ys]
    have e : PyData.eqv (.bool x) (.bool y) = decide (x = y) := by cases x <;> cases y <;> rfl
    rw [e]
    by_cases h : x = y <;> by_cases h2 : xs = ys <;> simp [h, h2]
theorem eqd_bb {K : Frag} {H : Hp} {a b : Addr} {xs ys : List Bool} {k : Bool → Prop} (h : SqL K H a (xs.map V.bl)) (h2 : SqL K H b (ys.map V.bl)) (q : k (decide (xs = ys))) : EqD K H (.ref a) (.ref b) k :=
  ⟨_, _, .lst h (dp_bls xs), .lst h2 (dp_bls ys), shp_bls xs, shp_bls ys, by
    have e : PyData.eqv (.list (xs.map PyData.bool)) (.list (ys.map PyData.bool)) = decide (xs = ys) := eqv_bls xs ys
    rw [e]; exact q⟩
theorem kit_VE : PySem.W.kitMeta "ValueError" = true := by decide +kernel
end S
-- law: k15
-- deps: Column_of_values _law_value D0 D1 eqd_bb Column_at
namespace S
open PySem PySem.Spec PyProof.Rows L2
theorem Cm.x {K : Frag} {H H' : Hp} {a st : Addr} {n : Int} {vf : Int → Option Int} {S : List Int} {l : List V} (h : Cm K H a n vf S) (e : SameX st H H') (hst : H st = some (.lst l)) : Cm K H' a n vf S := by
  obtain ⟨c, n0, kn, dx, p, q, M, h1, h2, h3, h4, h5, h6, h7, h8⟩ := h
  exact ⟨c, n0, kn, dx, p, q, M, e.slt hst h1, h2.x e hst, e.tup h3 hst, h4.x e hst, h5, h6, h7, h8⟩
theorem Cm.congr2 {K : Frag} {H : Hp} {a : Addr} {n : Int} {vf wf : Int → Option Int} {S : List Int} (h : Cm K H a n vf S) (e : ∀ row, 0 ≤ row → row < n → vf row = wf row) : Cm K H a n wf S := by
  obtain ⟨c, n0, kn, dx, p, q, M, h1, h2, h3, h4, h5, h6, h7, h8⟩ := h
  refine ⟨c, n0, kn, dx, p, q, M, h1, h2.congr fun row r0 r1 => congrArg Option.isSome (e row r0 r1), h3, h4, h5, h6, fun row r0 r1 => by rw [← e row r0 r1]; exact h7 row r0 r1, fun hl => ?_⟩
  obtain ⟨row, r0, r1, hw⟩ := h8 hl
  exact ⟨row, r0, r1, by rw [← e row r0 r1]; exact hw⟩
theorem isi_cm {K : Frag} {H : Hp} {a dx : Addr} {vs : List (Option V)} {k : Bool → Prop} (c : CmF K) (hs : SlX.Slt H a (He.ga K "Column") dx vs) (q : k true) : Isi K H (.ref a) (.ref (He.ga K "Column")) k :=
  ⟨.inr ⟨a, _, dx, _, true, rfl, hs, c.sc, c.si, by rw [mf_kit c.mf c.mf]; rfl, q⟩⟩
/-! lists of numbers, None for none -/
def dO (v : Option Int) : PyData := match v with
  | none => .none
  | some i => .int i
theorem dp_os {K : Frag} {H : Hp} : ∀ ns : List (Option Int), DpAll K H (ns.map vO) (ns.map dO)
  | [] => .nil
  | none :: r => .cons .non (dp_os r)
  | some i :: r => .cons (.int i) (dp_os r)
theorem can_os : ∀ ns : List (Option Int), PyData.canLayAll0 (ns.map dO) = true
  | [] => rfl
  | n :: r => by
    show (PyData.canLay0 (dO n) && PyData.canLayAll0 (r.map dO)) = true
    rw [can_os r]; cases n <;> rfl
theorem dep_os : ∀ ns : List (Option Int), PyData.depthAll (ns.map dO) = 0
  | [] => rfl
  | n :: r => by
    show max (PyData.depth (dO n)) (PyData.depthAll (r.map dO)) = 0
    rw [dep_os r]; cases n <;> rfl
theorem shp_os (ns : List (Option Int)) : SeqAt.shaped (.list (ns.map dO)) = true := by
  unfold SeqAt.shaped
  have e1 : PyData.canLay0 (.list (ns.map dO)) = true := can_os ns
  have e2 : PyData.depth (.list (ns.map dO)) = 1 := by show PyData.depthAll _ + 1 = 1; rw [dep_os]
  rw [e1, e2]; rfl
theorem eqv_dO (x y : Option Int) : PyData.eqv (dO x) (dO y) = decide (x = y) := by
  cases x with
  | none => cases y <;> rfl
  | some x => cases y with
    | none => rfl
    | some y =>
      show (x == y) = _
      by_cases h : x = y <;> simp [h]
theorem eqv_os : ∀ xs ys : List (Option Int), PyData.eqvAll (xs.map dO) (ys.map dO) = decide (xs = ys)
  | [], [] => rfl
  | [], _ :: _ => by simp [PyData.eqvAll]
  | _ :: _, [] => by simp [PyData.eqvAll]
  | x :: xs, y :: ys => by
    show (PyData.eqv (dO x) (dO y) && PyData.eqvAll (xs.map dO) (ys.map dO)) = _
    rw [eqv_os xs ys, eqv_dO]
    by_cases h : x = y <;> by_cases h2 : xs = ys <;> simp [h, h2]
theorem eqd_oo {K : Frag} {H : Hp} {a b : Addr} {xs ys : List (Option Int)} {k : Bool → Prop} (h : SqL K H a (xs.map vO)) (h2 : SqL K H b (ys.map vO)) (q : k (decide (xs = ys))) : EqD K H (.ref a) (.ref b) k :=
  ⟨_, _, .lst h (dp_os xs), .lst h2 (dp_os ys), shp_os xs, shp_os ys, by
    have e : PyData.eqv (.list (xs.map dO)) (.list (ys.map dO)) = decide (xs = ys) := eqv_os xs ys
    rw [e]; exact q⟩
/-! ### a column's width is the widest of its rows' -/
theorem wmaxL_ge : ∀ (R : List (Option Int)) (m : Nat), m ≤ R.foldl (fun m r => max m (widO r)) m ∧ ∀ r ∈ R, widO r ≤ R.foldl (fun m r => max m (widO r)) m
  | [], m => ⟨Nat.le_refl _, fun _ z => nomatch z⟩
  | x :: r, m => by
    obtain ⟨h1, h2⟩ := wmaxL_ge r (max m (widO x))
    refine ⟨?_, fun y hy => ?_⟩
    · show m ≤ r.foldl _ _
      exact Nat.le_trans (Nat.le_max_left _ _) h1
    · rcases List.mem_cons.mp hy with rfl | hy
      · exact Nat.le_trans (Nat.le_max_right _ _) h1
      · exact h2 y hy
theorem wmaxL_le {b : Nat} : ∀ (R : List (Option Int)) (m : Nat), m ≤ b → (∀ r ∈ R, widO r ≤ b) → R.foldl (fun m r => max m (widO r)) m ≤ b
  | [], m, h, _ => h
  | x :: r, m, h, h2 => wmaxL_le r (max m (widO x)) (by have := h2 x (List.mem_cons_self ..); omega) fun y hy => h2 y (List.mem_cons_of_mem _ hy)
theorem Wd.wid {len : Nat} {v : Int} (hl : 1 < len) (h : Wd len v) : len ≤ widI v := by
  by_cases hc : len ≤ widI v
  · exact hc
  · obtain ⟨a, b⟩ := widI_fit v
    have := pow_up (p := widI v - 1) (q := len - 2) (by omega)
    unfold Wd at h
    omega
theorem widO_pos (v : Option Int) : 1 ≤ widO v := by
  cases v with
  | none => exact Nat.le_refl _
  | some i => show 1 ≤ widI i; unfold widI; omega
/-- the slices' number by the rows of a list -/
theorem wid_rows {L : List (Option Int)} {M : List Slf} {vf : Int → Option Int} (ne : M ≠ []) (hv : ∀ (j : Nat) (v : Option Int), L[j]? = some v → vf (j : Int) = v) (num : ∀ row : Int, 0 ≤ row → row < (L.length : Nat) → twos (bitsF M row) = (vf row).getD 0) (wide : 1 < M.length → ∃ row : Int, 0 ≤ row ∧ row < (L.length : Nat) ∧ Wd M.length ((vf row).getD 0)) : M.length = wmaxL L := by
  have lne : M.length ≠ 0 := fun z => ne (List.eq_nil_of_length_eq_zero z)
  obtain ⟨g1, g2⟩ := wmaxL_ge L 1
  have h1 : M.length ≤ wmaxL L := by
    by_cases hl : 1 < M.length
    · obtain ⟨row, r0, r1, hw⟩ := wide hl
      obtain ⟨j, rfl⟩ := Int.eq_ofNat_of_zero_le r0
      have hj : j < L.length := by omega
      have hg : L[j]? = some L[j] := List.getElem?_eq_getElem hj
      have hm := g2 _ (List.getElem_mem hj)
      rw [hv j _ hg] at hw
      have := hw.wid hl
      generalize L[j] = v at *
      show M.length ≤ L.foldl _ 1
      cases v with
      | none =>
        exfalso
        have hw : Wd M.length 0 := hw
        have hp : (0 : Int) < 2 ^ (M.length - 2) := Int.pow_pos (by decide)
        unfold Wd at hw; omega
      | some v =>
        have hm : widI v ≤ L.foldl (fun m r => max m (widO r)) 1 := hm
        have : M.length ≤ widI v := this
        omega
    · show M.length ≤ L.foldl (fun m r => max m (widO r)) 1
      omega
  have h2 : wmaxL L ≤ M.length := wmaxL_le L 1 (by omega) fun v hv2 => by
    obtain ⟨j, hj, rfl⟩ := List.getElem_of_mem hv2
    have hg : L[j]? = some L[j] := List.getElem?_eq_getElem hj
    have hn := num (j : Int) (by omega) (by omega)
    rw [hv j _ hg] at hn
    generalize L[j] = v at *
    cases v with
    | none => show 1 ≤ M.length; omega
    | some v =>
      show widI v ≤ M.length
      have hr := twos_rangeL (bitsF_neA ne (j : Int))
      rw [bitsF_lenA, hn] at hr
      have hr : -(2 ^ (M.length - 1) : Int) ≤ v ∧ v < 2 ^ (M.length - 1) := hr
      have := widI_le hr.1 hr.2
      omega
  omega
end S
-- deps: Column_of_runs Column_at Cx
/-! ## comparing bit by bit, from the top -/
namespace S
open PySem PySem.Spec PyProof.Rows L2
def cmpO (r : Int → Int → Bool) (v w : Option Int) : Bool := match v, w with
  | some a, some b => r a b
  | _, _ => false
def ltO (p : Nat) : Option Int → Option Int → Bool := cmpO fun a b => decide (a / 2 ^ p < b / 2 ^ p)
def eqO (p : Nat) : Option Int → Option Int → Bool := cmpO fun a b => decide (a / 2 ^ p = b / 2 ^ p)
def gtO (p : Nat) : Option Int → Option Int → Bool := cmpO fun a b => decide (b / 2 ^ p < a / 2 ^ p)
def bothO : Option Int → Option Int → Bool := cmpO fun _ _ => true
theorem div_up (a : Int) (p : Nat) : a / 2 ^ (p + 1) = a / 2 ^ p / 2 := by rw [Int.pow_succ, Int.ediv_ediv_of_nonneg (Int.le_of_lt (Int.pow_pos (by decide)))]
theorem lt_step (p : Nat) (v w : Option Int) : rOr (ltO (p + 1) v w) (rAnd (eqO (p + 1) v w) (rLess (bitO w p) (bitO v p))) = ltO p v w := by
  cases v with
  | none => rfl
  | some a =>
    cases w with
    | none => rfl
    | some b =>
      show (decide (a / 2 ^ (p + 1) < b / 2 ^ (p + 1)) || (decide (a / 2 ^ (p + 1) = b / 2 ^ (p + 1)) && (decide (b / 2 ^ p % 2 = 1) && !decide (a / 2 ^ p % 2 = 1)))) = decide (a / 2 ^ p < b / 2 ^ p)
      rw [div_up, div_up]
      generalize a / 2 ^ p = x
      generalize b / 2 ^ p = y
      rw [Bool.eq_iff_iff]
      simp only [Bool.or_eq_true, Bool.and_eq_true, decide_eq_true_eq, Bool.not_eq_true', decide_eq_false_iff_not]
      omega
theorem gt_step (p : Nat) (v w : Option Int) : rOr (gtO (p + 1) v w) (rAnd (eqO (p + 1) v w) (rLess (bitO v p) (bitO w p))) = gtO p v w := by
  cases v with
  | none => rfl
  | some a =>
    cases w with
    | none => rfl
    | some b =>
      show (decide (b / 2 ^ (p + 1) < a / 2 ^ (p + 1)) || (decide (a / 2 ^ (p + 1) = b / 2 ^ (p + 1)) && (decide (a / 2 ^ p % 2 = 1) && !decide (b / 2 ^ p % 2 = 1)))) = decide (b / 2 ^ p < a / 2 ^ p)
      rw [div_up, div_up]
      generalize a / 2 ^ p = x
      generalize b / 2 ^ p = y
      rw [Bool.eq_iff_iff]
      simp only [Bool.or_eq_true, Bool.and_eq_true, decide_eq_true_eq, Bool.not_eq_true', decide_eq_false_iff_not]
      omega
theorem eq_step (p : Nat) (v w : Option Int) : rLess (rLess (eqO (p + 1) v w) (rAnd (eqO (p + 1) v w) (rLess (bitO v p) (bitO w p)))) (rAnd (eqO (p + 1) v w) (rLess (bitO w p) (bitO v p))) = eqO p v w := by
  cases v with
  | none => rfl
  | some a =>
    cases w with
    | none => rfl
    | some b =>
      show ((decide (a / 2 ^ (p + 1) = b / 2 ^ (p + 1)) && !(decide (a / 2 ^ (p + 1) = b / 2 ^ (p + 1)) && (decide (a / 2 ^ p % 2 = 1) && !decide (b / 2 ^ p % 2 = 1)))) && !(decide (a / 2 ^ (p + 1) = b / 2 ^ (p + 1)) && (decide (b / 2 ^ p % 2 = 1) && !decide (a / 2 ^ p % 2 = 1)))) = decide (a / 2 ^ p = b / 2 ^ p)
      rw [div_up, div_up]
      generalize a / 2 ^ p = x
      generalize b / 2 ^ p = y
      by_cases h1 : x / 2 = y / 2
      · by_cases h2 : x % 2 = 1
        · by_cases h3 : y % 2 = 1
          · have : x = y := by omega
            simp [h1, h2, h3, this]
          · have : ¬ x = y := by omega
            simp [h1, h2, h3, this]
        · by_cases h3 : y % 2 = 1
          · have : ¬ x = y := by omega
            simp [h1, h2, h3, this]
          · have : x = y := by omega
            simp [h1, h2, h3, this]
      · have : ¬ x = y := fun z => h1 (by rw [z])
        simp [h1, this]
/-- a number of the sign's place alone -/
theorem div_top {a : Int} {p : Nat} (h0 : -(2 ^ p : Int) ≤ a) (h1 : a < 2 ^ p) : (a / 2 ^ p = 0 ∨ a / 2 ^ p = -1) ∧ bitI a p = decide (a / 2 ^ p = -1) := by
  have hp : (0 : Int) < 2 ^ p := Int.pow_pos (by decide)
  have e1 : a / 2 ^ p = 0 ∨ a / 2 ^ p = -1 := by
    by_cases h : 0 ≤ a
    · exact .inl (Int.ediv_eq_zero_of_lt h h1)
    · refine .inr ?_
      have e : a = (a + 2 ^ p) + (-1) * 2 ^ p := by omega
      rw [e, Int.add_mul_ediv_right _ _ (by omega), Int.ediv_eq_zero_of_lt (by omega) (by omega)]; rfl
  refine ⟨e1, ?_⟩
  unfold bitI
  rcases e1 with e | e <;> rw [e] <;> rfl
def fitO (p : Nat) (v : Option Int) : Prop := -(2 ^ p : Int) ≤ v.getD 0 ∧ v.getD 0 < 2 ^ p
theorem top_step {p : Nat} {v w : Option Int} (hv : fitO p v) (hw : fitO p w) :
    rAnd (bothO v w) (rLess (bitO v p) (bitO w p)) = ltO p v w ∧ rAnd (bothO v w) (rLess (bitO w p) (bitO v p)) = gtO p v w ∧
    rLess (rLess (bothO v w) (rAnd (bothO v w) (rLess (bitO w p) (bitO v p)))) (rAnd (bothO v w) (rLess (bitO v p) (bitO w p))) = eqO p v w := by
  cases v with
  | none => exact ⟨rfl, rfl, rfl⟩
  | some a =>
    cases w with
    | none => exact ⟨rfl, rfl, rfl⟩
    | some b =>
      obtain ⟨c1, c2⟩ := div_top (a := a) (p := p) hv.1 hv.2
      obtain ⟨d1, d2⟩ := div_top (a := b) (p := p) hw.1 hw.2
      show (true && (bitI a p && !bitI b p)) = decide (a / 2 ^ p < b / 2 ^ p) ∧ (true && (bitI b p && !bitI a p)) = decide (b / 2 ^ p < a / 2 ^ p) ∧ ((true && !(true && (bitI b p && !bitI a p))) && !(true && (bitI a p && !bitI b p))) = decide (a / 2 ^ p = b / 2 ^ p)
      rw [c2, d2]
      rcases c1 with c | c <;> rcases d1 with d | d <;> rw [c, d] <;> decide
theorem zero_div (a : Int) : a / 2 ^ 0 = a := by simp
section
variable {K : Frag} {H : Hp} {x y : Addr} {n : Int} {f g : Int → Bool} {S : List Int} {Q : VK} {E : XK}
theorem bs_sub (kn : Kn S) (h1 : Bs K H x n f S) (h2 : Bs K H y n g S) (q : ∀ z H', Same H H' → H z = none → Bs K H' z n (fun row => rLess (f row) (g row)) S → Q (.ref z) H') : IsO K H "Bitmap" x (IsO K H "Bitmap" y (sp_Bitmapdd_subdd K [.ref x, .ref y] H Q E)) := bs_O2 h1 h2 ⟨x, y, rfl, bs_join kn h1 h2 rfl q⟩
theorem Bs.mono {S' : List Int} (h : Bs K H x n f S) (hs : ∀ z ∈ S, z ∈ S') : Bs K H x n f S' := let ⟨es, a, b, c⟩ := h; ⟨es, a, fun z hz => hs z (b z hz), c⟩
theorem Cm.mono {S' : List Int} {vf : Int → Option Int} (h : Cm K H x n vf S) (kn : Kn S') (hs : ∀ z ∈ S, z ∈ S') : Cm K H x n vf S' := by
  obtain ⟨c, n0, _, dx, p, q, M, h1, h2, h3, h4, h5, h6, h7, h8⟩ := h
  exact ⟨c, n0, kn, dx, p, q, M, h1, h2.mono hs, h3, fun t ht => (h4 t ht).mono hs, h5, h6, h7, h8⟩
end
end S
-- deps: Bs Cmp
/-! ## whether a bitmap has a row, as a test -/
namespace S
open PySem PySem.Spec PyProof.Rows L2
def anyR (n : Int) (f : Int → Bool) : Prop := ∃ row, 0 ≤ row ∧ row < n ∧ f row = true
theorem ends_any {n : Int} {es : List Int} (hE : Ends n es) : es ≠ [] ↔ anyR n (inB es) := by
  cases es with
  | nil => exact ⟨fun h => absurd rfl h, fun ⟨_, _, _, h⟩ => by cases h⟩
  | cons e es =>
    have he := hE.2 e (List.mem_cons_self ..)
    have hlt := (List.pairwise_cons.mp hE.1).1
    refine ⟨fun _ => ⟨e, he.1, he.2, ?_⟩, fun _ z => by cases z⟩
    rw [inB_cons, if_pos (Int.le_refl _), inB_before hlt]; rfl
theorem bs_bool {K : Frag} {H : Hp} {x : Addr} {n : Int} {f : Int → Bool} {S : List Int} {E : XK} {Q : Bool → Hp → Prop} (h : Bs K H x n f S) (q1 : anyR n f → Q true H) (q2 : ¬ anyR n f → Q false H) : IsO K H "Bitmap" x (sp_Bitmapdd_booldd K [.ref x] H (isB Q) E) := by
  obtain ⟨dx, vs, hs⟩ := h.slt
  obtain ⟨es, hb, _, hr⟩ := h
  refine .of hs ⟨x, n, es, rfl, hb, ?_⟩
  have key := ends_any hb.2.2.1
  have e2 : anyR n (inB es) ↔ anyR n f := ⟨fun ⟨r, a, b, c⟩ => ⟨r, a, b, by rw [← hr r a b]; exact c⟩, fun ⟨r, a, b, c⟩ => ⟨r, a, b, by rw [hr r a b]; exact c⟩⟩
  show Q (decide (es ≠ [])) H
  by_cases hz : es ≠ []
  · rw [decide_eq_true hz]; exact q1 (e2.mp (key.mp hz))
  · rw [decide_eq_false hz]; exact q2 fun z => hz (key.mpr (e2.mpr z))
theorem bs_size {K : Frag} {H : Hp} {x : Addr} {n : Int} {f : Int → Bool} {S : List Int} {k : V → Prop} (h : Bs K H x n f S) (q : k (.int n)) : Atr K H x "size" k := by
  obtain ⟨es, ⟨c, _, _, dx, p, a, _⟩, _⟩ := h
  exact Atr.sl c a (i := 1) rfl rfl q
end S
namespace S
open PySem PySem.Spec PyProof.Rows L2
def t_Answerdd_initdd_4 (K : Frag) (E : XK) : TS :=
    dSto K "no" (dVar 3) (dVar 0)
def t_Answerdd_initdd_3 (K : Frag) (E : XK) : TS :=
    tSeq (dSto K "yes" (dVar 2) (dVar 0))
    (stop (t_Answerdd_initdd_4 K E))
def t_Answerdd_initdd_2 (K : Frag) (E : XK) : TS :=
    tSeq (dSto K "rows" (dVar 1) (dVar 0))
    (stop (t_Answerdd_initdd_3 K E))
def t_Answerdd_initdd_1 (K : Frag) (E : XK) : TS :=
    tSeq (dIfS (dOr (dTestO K "Bitmap" (sp_Bitmapdd_booldd K) E (tOp (oOwn K "Bitmap" (sp_Bitmapdd_anddd K) E oAnd) (dVar 2) (dVar 3))) (dOr (dTestO K "Bitmap" (sp_Bitmapdd_booldd K) E (tOp (oOwn K "Bitmap" (sp_Bitmapdd_subdd K) E oSub) (dVar 2) (dVar 1))) (dTestO K "Bitmap" (sp_Bitmapdd_booldd K) E (tOp (oOwn K "Bitmap" (sp_Bitmapdd_subdd K) E oSub) (dVar 3) (dVar 1))))) (dGivS (ExF K "BadAnswer" ["SliceError"]) (dRaise K "BadAnswer" (WD E))) (tNext))
    (stop (t_Answerdd_initdd_2 K E))
def t_Answerdd_initdd (K : Frag) (E : XK) : TS :=
    tSeq (dIfS (dOr (dCmpT (oNe K) (dAt K "size" (dVar 2)) (dAt K "size" (dVar 1))) (dCmpT (oNe K) (dAt K "size" (dVar 3)) (dAt K "size" (dVar 1)))) (dGivS (ExF K "SizesDiffer" ["SliceError"]) (dRaise K "SizesDiffer" (WD E))) (tNext))
    (stop (t_Answerdd_initdd_1 K E))
end S
-- fn: Answer.__init__
-- law: k46
-- own: BitAnd=Bitmap Sub=Bitmap bool=Bitmap
-- deps: Bs Cmp Nef Bitmap_ops
namespace S
open PySem PySem.Spec PyProof.Rows L2
abbrev AnF (K : Frag) : Prop := DF K "Answer" [] ["rows", "yes", "no"]
/-- yes and no lie apart and within the rows -/
def okA (n : Int) (fR fY fN : Int → Bool) : Prop := ∀ row, 0 ≤ row → row < n → ¬ (fY row = true ∧ fN row = true) ∧ (fY row = true → fR row = true) ∧ (fN row = true → fR row = true)
/-- an answer: its rows, those that answer True, those that answer False -/
def AnA (K : Frag) (H : Hp) (a : Addr) (n : Int) (S : List Int) (fR fY fN : Int → Bool) : Prop := AnF K ∧ Kn S ∧ okA n fR fY fN ∧ ∃ dx r y z, H a = some (.ins (He.ga K "Answer") dx [("rows", .ref r), ("yes", .ref y), ("no", .ref z)]) ∧ Bs K H r n fR S ∧ Bs K H y n fY S ∧ Bs K H z n fN S
theorem AnA.same {K : Frag} {H H' : Hp} {a : Addr} {n : Int} {S : List Int} {fR fY fN : Int → Bool} (h : AnA K H a n S fR fY fN) (e : Same H H') : AnA K H' a n S fR fY fN := by
  obtain ⟨c, k, o, dx, r, y, z, h1, h2, h3, h4⟩ := h
  exact ⟨c, k, o, dx, r, y, z, e _ _ h1, h2.same e, h3.same e, h4.same e⟩
theorem AnA.x {K : Frag} {H H' : Hp} {a st : Addr} {n : Int} {S : List Int} {fR fY fN : Int → Bool} {l : List V} (h : AnA K H a n S fR fY fN) (e : SameX st H H') (hst : H st = some (.lst l)) : AnA K H' a n S fR fY fN := by
  obtain ⟨c, k, o, dx, r, y, z, h1, h2, h3, h4⟩ := h
  exact ⟨c, k, o, dx, r, y, z, e _ _ h1 (ne_of h1 hst fun z => by cases z), h2.x e hst, h3.x e hst, h4.x e hst⟩
def sp_Answerdd_initdd (K : Frag) : Sp := fun vs H Q E => ∃ (H0 : Hp) (x dx r y z : Addr) (n ny nz : Int) (S : List Int) (fR fY fN : Int → Bool), vs = [.ref x, .ref r, .ref y, .ref z] ∧ AnF K ∧ H0 x = none ∧ Same H0 H ∧ H x = some (.ins (He.ga K "Answer") dx []) ∧ Kn S ∧
  Bs K H0 r n fR S ∧ Bs K H0 y ny fY S ∧ Bs K H0 z nz fN S ∧
  (ny = n → nz = n → okA n fR fY fN → ∀ H', Same H0 H' → AnA K H' x n S fR fY fN → Q .non H') ∧
  (ny = n → nz = n → ¬ okA n fR fY fN → XF K "BadAnswer" → ∀ H', Same H0 H' → E (.ref (He.ga K "BadAnswer")) none H') ∧
  (¬ (ny = n ∧ nz = n) → XF K "SizesDiffer" → ∀ H', Same H0 H' → E (.ref (He.ga K "SizesDiffer")) none H')
theorem pure_Answerdd_initdd {K : Frag} (vs : List V) (H : Hp) (Q : VK) (E : XK) (h : sp_Answerdd_initdd K vs H Q E) : t_Answerdd_initdd K E { nx := fun _ H' => Q .non H', rt := Q } (start ["self", "rows", "yes", "no"] vs) H := by
  obtain ⟨H0, x, dx, r, y, z, n, ny, nz, S, fR, fY, fN, rfl, af, nx, e0, hx, kn, hr, hy, hz, good, bad, badS⟩ := h
  have hr0 := hr.same e0
  have hy0 := hy.same e0
  have hz0 := hz.same e0
  walk_at "gx"
  refine bs_size hy0 ?_
  refine bs_size hr0 ?_
  refine ifn (fun h1 => ?_) (fun h1 => ?_)
  · exact fun xf => badS (fun g => h1 g.1) xf _ e0
  refine bs_size hz0 ?_
  refine bs_size hr0 ?_
  refine ifn (fun h2 => ?_) (fun h2 => ?_)
  · exact fun xf => badS (fun g => h2 g.2) xf _ e0
  refine ⟨?_⟩
  subst h1
  subst h2
  have raise : ∀ H', Same H0 H' → ¬ okA nz fR fY fN → (dGivS (ExF K "BadAnswer" ["SliceError"]) (dRaise K "BadAnswer" (WD E))) { nx := stop (t_Answerdd_initdd_2 K E) { nx := fun _ H' => Q .non H', rt := Q }, rt := Q } [some (.ref x), some (.ref r), some (.ref y), some (.ref z)] H' := fun H' e nb xf => bad rfl rfl nb xf H' e
  walk_at "gx"
  refine bs_and kn hy0 hz0 fun w1 H1 e1 _ hw1 => ?_
  refine bs_bool hw1 (fun g => ?_) (fun g1 => ?_)
  · obtain ⟨row, r0, r1, g⟩ := g
    exact raise H1 (e0.trans e1) fun ok => (ok row r0 r1).1 (by simpa [rAnd] using g)
  refine bs_sub kn (hy0.same e1) (hr0.same e1) fun w2 H2 e2 _ hw2 => ?_
  refine bs_bool hw2 (fun g => ?_) (fun g2 => ?_)
  · obtain ⟨row, r0, r1, g⟩ := g
    have g : fY row = true ∧ fR row = false := by simpa [rLess] using g
    exact raise H2 ((e0.trans e1).trans e2) fun ok => by have := (ok row r0 r1).2.1 g.1; rw [g.2] at this; cases this
  have e12 := e1.trans e2
  refine bs_sub kn (hz0.same e12) (hr0.same e12) fun w3 H3 e3 _ hw3 => ?_
  have e03 := (e0.trans e12).trans e3
  refine bs_bool hw3 (fun g => ?_) (fun g3 => ?_)
  · obtain ⟨row, r0, r1, g⟩ := g
    have g : fN row = true ∧ fR row = false := by simpa [rLess] using g
    exact raise H3 e03 fun ok => by have := (ok row r0 r1).2.2 g.1; rw [g.2] at this; cases this
  have ok : okA nz fR fY fN := fun row r0 r1 => ⟨fun g => g1 ⟨row, r0, r1, by simp [rAnd, g.1, g.2]⟩, fun g => by
    cases h : fR row with
    | true => rfl
    | false => exact absurd ⟨row, r0, r1, by simp [rLess, g, h]⟩ g2, fun g => by
    cases h : fR row with
    | true => rfl
    | false => exact absurd ⟨row, r0, r1, by simp [rLess, g, h]⟩ g3⟩
  have hx3 := (e12.trans e3) _ _ hx
  refine ⟨?_⟩
  walk_at "gx"
  refine Sto.df af hx3 (by show 0 < 1000; decide) ?_
  have e4 : Same H0 (upd H3 x (.ins (He.ga K "Answer") dx [("rows", .ref r)])) := Same.mut e03 nx
  have hx4 : upd H3 x (.ins (He.ga K "Answer") dx [("rows", .ref r)]) x = some (.ins (He.ga K "Answer") dx [("rows", .ref r)]) := upd_same
  show stop _ _ _ (upd H3 x (.ins (He.ga K "Answer") dx [("rows", .ref r)]))
  generalize upd H3 x (.ins (He.ga K "Answer") dx [("rows", .ref r)]) = H4 at *
  walk_at "gx"
  refine Sto.df af hx4 (by show 1 < 1000; decide) ?_
  have e5 : Same H0 (upd H4 x (.ins (He.ga K "Answer") dx [("rows", .ref r), ("yes", .ref y)])) := Same.mut e4 nx
  have hx5 : upd H4 x (.ins (He.ga K "Answer") dx [("rows", .ref r), ("yes", .ref y)]) x = some (.ins (He.ga K "Answer") dx [("rows", .ref r), ("yes", .ref y)]) := upd_same
  show stop _ _ _ (upd H4 x (.ins (He.ga K "Answer") dx [("rows", .ref r), ("yes", .ref y)]))
  generalize upd H4 x (.ins (He.ga K "Answer") dx [("rows", .ref r), ("yes", .ref y)]) = H5 at *
  walk_at "gx"
  refine Sto.df af hx5 (by show 2 < 1000; decide) ?_
  have e6 : Same H0 (upd H5 x (.ins (He.ga K "Answer") dx [("rows", .ref r), ("yes", .ref y), ("no", .ref z)])) := Same.mut e5 nx
  exact good rfl rfl ok _ e6 ⟨af, kn, ok, dx, r, y, z, upd_same, hr.same e6, hy.same e6, hz.same e6⟩
/-- an answer is made -/
theorem mk_answer {K : Frag} {H : Hp} {r y z : Addr} {n ny nz : Int} {S : List Int} {fR fY fN : Int → Bool} {R : Addr → Hp → Prop} {E : XK} (af : AnF K) (kn : Kn S) (hr : Bs K H r n fR S) (hy : Bs K H y ny fY S) (hz : Bs K H z nz fN S)
    (good : ny = n → nz = n → okA n fR fY fN → ∀ x H', Same H H' → H x = none → AnA K H' x n S fR fY fN → R x H')
    (bad : ny = n → nz = n → ¬ okA n fR fY fN → XF K "BadAnswer" → ∀ H', Same H H' → E (.ref (He.ga K "BadAnswer")) none H')
    (badS : ¬ (ny = n ∧ nz = n) → XF K "SizesDiffer" → ∀ H', Same H H' → E (.ref (He.ga K "SizesDiffer")) none H') :
    NewI K H "Answer" fun x H2 => sp_Answerdd_initdd K [.ref x, .ref r, .ref y, .ref z] H2 (fun v H3 => v = .non ∧ R x H3) E := by
  refine ⟨fun x dx h1 h2 hne => ?_⟩
  have e : Same H (upd (upd H dx (.own x)) x (.ins (He.ga K "Answer") dx [])) := fun b o h => by
    rw [upd_ne (ne_of_none h h1), upd_ne (ne_of_none h h2)]; exact h
  exact ⟨H, x, dx, r, y, z, n, ny, nz, S, fR, fY, fN, rfl, af, h1, e, upd_same, kn, hr, hy, hz, fun a b ok H' e' hs => ⟨rfl, good a b ok x H' e' h1 hs⟩, bad, badS⟩
end S
namespace S
open PySem PySem.Spec PyProof.Rows L2
def t_Bitmap_rank_b1 (K : Frag) (E : XK) : TS :=
    dIfS (dCmpT oLt (dVar 4) (dVar 1)) (tAsg (tOp (oAdd K) (dVar 2) (tOp oMulA (tOp oSub (dVar 1) (dVar 4)) (tOp oSub (tC (.int 1)) (tOp oMulA (tC (.int 2)) (tOp oAnd (dVar 3) (tC (.int 1))))))) (gName 2)) (tNext)
def t_Bitmap_rank_3 (K : Frag) (E : XK) : TS :=
    tRet (dVar 2)
def t_Bitmap_rank_2 (K : Frag) (E : XK) : TS :=
    tSeq (dFor (iEn K (dAt K "ends" (dVar 0))) (gTup K 2 (gCons (gName 3) (gCons (gName 4) (gNil)))) (t_Bitmap_rank_b1 K E))
    (stop (t_Bitmap_rank_3 K E))
def t_Bitmap_rank_1 (K : Frag) (E : XK) : TS :=
    tSeq (tAsg (tC (.int 0)) (gName 2))
    (stop (t_Bitmap_rank_2 K E))
def t_Bitmap_rank (K : Frag) (E : XK) : TS :=
    tSeq (dIfS (dNot (dChainT oLe oLe (tC (.int 0)) (dVar 1) (dAt K "size" (dVar 0)))) (dGivS (ExF K "NoSuchRow" ["SliceError"]) (dRsI K "NoSuchRow" "row" (WD E) 1)) (tNext))
    (stop (t_Bitmap_rank_1 K E))
end S
-- fn: Bitmap.rank
-- law: k11
-- deps: Bm _law_in swept Bitmap_init
namespace S
open PySem PySem.Spec PyProof.Rows L2
/-- the rows below the row, by the ends; s: 1 at an end that begins, -1 at one that stops -/
def rankF (row : Int) : List Int → Int → Int
  | [], _ => 0
  | e :: r, s => (if e < row then (row - e) * s else 0) + rankF row r (-s)
theorem rankF_snoc (row x : Int) : ∀ (l : List Int) (s : Int), rankF row (l ++ [x]) s = rankF row l s + (if x < row then (row - x) * (if l.length % 2 = 0 then s else -s) else 0)
  | [], s => by simp [rankF]
  | e :: r, s => by
    show (if e < row then (row - e) * s else 0) + rankF row (r ++ [x]) (-s) = (if e < row then (row - e) * s else 0) + rankF row r (-s) + _
    have k : (if r.length % 2 = 0 then -s else - -s) = (if (r.length + 1) % 2 = 0 then s else -s) := by
      by_cases h : r.length % 2 = 0
      · rw [if_pos h, if_neg (by omega)]
      · rw [if_neg h, if_pos (by omega), Int.neg_neg]
    rw [rankF_snoc row x r (-s), List.length_cons, k, Int.add_assoc]
def sp_Bitmap_rank (K : Frag) : Sp := fun vs H Q E => ∃ (x : Addr) (n row : Int) (es : List Int), vs = [.ref x, .int row] ∧ Bm K H x n es ∧ n ≤ 2 * 10 ^ 18 ∧ es.length ≤ 50000 ∧ (0 ≤ row → row ≤ n → ∀ H', Same H H' → Q (.int (rankF row es 1)) H') ∧
  (¬ (0 ≤ row ∧ row ≤ n) → XF K "NoSuchRow" → ∀ d, H d = none → E (.ref (He.ga K "NoSuchRow")) (some d) (upd H d (.xd [("row", .int row)])))
theorem sgn (i : Nat) : 1 - 2 * Builtin.bitAnd (i : Int) 1 = if i % 2 = 0 then 1 else -1 := by
  rw [bitAnd_m1]
  by_cases h : i % 2 = 0
  · rw [if_pos h]; omega
  · rw [if_neg h]; omega
theorem pure_Bitmap_rank {K : Frag} (vs : List V) (H : Hp) (Q : VK) (E : XK) (h : sp_Bitmap_rank K vs H Q E) : t_Bitmap_rank K E { nx := fun _ H' => Q .non H', rt := Q } (start ["self", "row", "below", "k", "end"] vs) H := by
  obtain ⟨x, n, row, es, rfl, hb, n1, hl, good, bad⟩ := h
  obtain ⟨c, n0, hE, dx, p, hs, hp⟩ := id hb
  have raise : ¬ (0 ≤ row ∧ row ≤ n) → ∀ k, dGivS (ExF K "NoSuchRow" ["SliceError"]) (dRsI K "NoSuchRow" "row" (WD E) 1) k [some (.ref x), some (.int row), none, none, none] H := fun hb k xf => ⟨fun d nd => bad hb xf d nd⟩
  walk_at "gx"
  refine ifd (fun r0 => ?_) (fun r0 => raise (fun z => r0 z.1) _)
  refine Atr.sl c hs (i := 1) rfl rfl ?_
  show bIf (!decide (row ≤ n)) _ _
  refine ifn (fun r1 => raise (fun z => r1 z.2) _) (fun r1 => ?_)
  have q := good r0 r1
  walk_at "gx"
  refine Atr.sl c hs (i := 0) rfl rfl ?_
  refine for_en (fun i σ H1 => Same H H1 ∧ ∃ (a b : Option V), σ = [some (.ref x), some (.int row), some (.int (rankF row (es.take i) 1)), a, b]) hp ⟨Same.refl _, none, none, rfl⟩ (fun i σ H1 _ z => Same.tup z.1 hp) ?_ ?_
  · rintro i v σ H1 hi ⟨e1, a, b, rfl⟩ T hT
    obtain ⟨y, hy, rfl⟩ := map_get hi
    have e2 : Same H (upd H1 T (.tup [.int (i : Int), .int y])) := e1.trans (same_new hT)
    have hyr := hE.2 y (List.mem_of_getElem? hy)
    have ht : es.take (i + 1) = es.take i ++ [y] := by rw [List.take_succ, hy]; rfl
    have hlen : (es.take i).length = i := by
      obtain ⟨h1, _⟩ := List.getElem?_eq_some_iff.mp hy
      rw [List.length_take]; omega
    have st := rankF_snoc row y (es.take i) 1
    rw [← ht, hlen] at st
    refine ⟨T, _, rfl, SqT.of upd_same, rfl, _, _, rfl, ?_⟩
    refine ⟨_, _, rfl, ?_⟩
    refine ⟨rfl, ?_⟩
    walk_at "gx"
    refine ifd (fun hlt => ?_) (fun hlt => ?_)
    · have hlt' : y < row := hlt
      rw [if_pos hlt'] at st
      walk_at "gx"
      rw [← sgn] at st
      exact ⟨e2, _, _, by rw [st]; rfl⟩
    · have hlt' : ¬ y < row := hlt
      rw [if_neg hlt', Int.add_zero] at st
      exact ⟨e2, _, _, by rw [st]; rfl⟩
  · rintro σ H1 ⟨e1, a, b, rfl⟩
    rw [List.length_map, List.take_length]
    walk_at "gx"
    exact q _ e1
end S
namespace S
open PySem PySem.Spec PyProof.Rows L2
def t_Bitmap_ones (K : Frag) (E : XK) : TS :=
    tRet (dMeth K "Bitmap" (sp_Bitmap_rank K) (EW E) (dVar 0) (tCons (dAt K "size" (dVar 0)) (tNil)))
end S
-- fn: Bitmap.ones
-- law: k11
-- deps: Bm Bitmap_rank
namespace S
open PySem PySem.Spec PyProof.Rows L2
def sp_Bitmap_ones (K : Frag) : Sp := fun vs H Q _ => ∃ (x : Addr) (n : Int) (es : List Int), vs = [.ref x] ∧ Bm K H x n es ∧ n ≤ 2 * 10 ^ 18 ∧ es.length ≤ 50000 ∧ ∀ H', Same H H' → Q (.int (rankF n es 1)) H'
theorem pure_Bitmap_ones {K : Frag} (vs : List V) (H : Hp) (Q : VK) (E : XK) (h : sp_Bitmap_ones K vs H Q E) : t_Bitmap_ones K E { nx := fun _ H' => Q .non H', rt := Q } (start ["self"] vs) H := by
  obtain ⟨x, n, es, rfl, hb, n1, hl, q⟩ := h
  obtain ⟨c, n0, hE, dx, p, hs, hp⟩ := id hb
  refine IsO.of hs ?_
  refine Atr.sl c hs (i := 1) rfl rfl ?_
  exact ⟨x, n, n, es, rfl, hb, n1, hl, fun _ _ => q, fun z => absurd ⟨n0, Int.le_refl _⟩ z⟩
end S
-- deps: Bm Bitmap_ops Bitmap_rank Bitmap_ones
/-! ## bitmaps told by their rows; counts -/
namespace S
open PySem PySem.Spec PyProof.Rows L2
theorem uniq_ends {n : Int} : ∀ (es fs : List Int) (lo : Int), es.Pairwise (· < ·) → fs.Pairwise (· < ·) → (∀ x ∈ es, lo ≤ x ∧ x < n) → (∀ x ∈ fs, lo ≤ x ∧ x < n) → (∀ row, lo ≤ row → row < n → inB es row = inB fs row) → es = fs
  | [], [], _, _, _, _, _, _ => rfl
  | [], y :: r, lo, _, h2, _, b2, h => by
    have hy := b2 y (List.mem_cons_self ..)
    have z := h y hy.1 hy.2
    rw [inB_cons, if_pos (Int.le_refl _), inB_before (List.pairwise_cons.mp h2).1] at z
    cases z
  | x :: r, [], lo, h1, _, b1, _, h => by
    have hx := b1 x (List.mem_cons_self ..)
    have z := h x hx.1 hx.2
    rw [inB_cons, if_pos (Int.le_refl _), inB_before (List.pairwise_cons.mp h1).1] at z
    cases z
  | x :: r, y :: r', lo, h1, h2, b1, b2, h => by
    have hx := b1 x (List.mem_cons_self ..)
    have hy := b2 y (List.mem_cons_self ..)
    have g1 := (List.pairwise_cons.mp h1).1
    have g2 := (List.pairwise_cons.mp h2).1
    have e : x = y := by
      rcases Int.lt_trichotomy x y with hl | hl | hl
      · have z := h x hx.1 hx.2
        rw [inB_cons, if_pos (Int.le_refl _), inB_before g1, inB_cons, if_neg (by omega), inB_before fun w hw => by have := g2 w hw; omega] at z
        cases z
      · exact hl
      · have z := h y hy.1 hy.2
        rw [inB_cons, if_neg (by omega), inB_before fun w hw => by have := g1 w hw; omega, inB_cons, if_pos (Int.le_refl _), inB_before g2] at z
        cases z
    subst e
    rw [uniq_ends r r' (x + 1) (List.pairwise_cons.mp h1).2 (List.pairwise_cons.mp h2).2 (fun w hw => ⟨by have := g1 w hw; omega, (b1 w (List.mem_cons_of_mem _ hw)).2⟩) (fun w hw => ⟨by have := g2 w hw; omega, (b2 w (List.mem_cons_of_mem _ hw)).2⟩) fun row a b => by
      have z := h row (by omega) b
      rw [inB_cons, inB_cons, if_pos (by omega), if_pos (by omega)] at z
      cases u : inB r row <;> cases v : inB r' row <;> simp [u, v] at z ⊢]
/-- a bitmap whose rows are told by f, at most m ends -/
def Bx (K : Frag) (H : Hp) (x : Addr) (n : Int) (f : Int → Bool) (m : Nat) : Prop := ∃ es, Bm K H x n es ∧ es.length ≤ m ∧ ∀ row, 0 ≤ row → row < n → inB es row = f row
theorem Bx.same {K : Frag} {H H' : Hp} {x : Addr} {n : Int} {f : Int → Bool} {m : Nat} (h : Bx K H x n f m) (e : Same H H') : Bx K H' x n f m := let ⟨es, a, b, c⟩ := h; ⟨es, a.same e, b, c⟩
theorem Bx.slt {K : Frag} {H : Hp} {x : Addr} {n : Int} {f : Int → Bool} {m : Nat} (h : Bx K H x n f m) : ∃ dx vs, SlX.Slt H x (He.ga K "Bitmap") dx vs := let ⟨_, ⟨_, _, _, dx, _, a, _⟩, _⟩ := h; ⟨dx, _, a⟩
section
variable {K : Frag} {H : Hp} {x y : Addr} {n : Int} {f g : Int → Bool} {m1 m2 : Nat} {Q : VK} {E : XK}
theorem spJoin_of {r : Bool → Bool → Bool} (h1 : Bx K H x n f m1) (h2 : Bx K H y n g m2) (l1 : m1 ≤ 50000) (l2 : m2 ≤ 50000) (h0 : r false false = false) (q : ∀ z H', Same H H' → Bx K H' z n (fun row => r (f row) (g row)) (m1 + m2) → Q (.ref z) H') : spJoin K r x y H Q E := by
  obtain ⟨es, b1, a1, c1⟩ := h1
  obtain ⟨fs, b2, a2, c2⟩ := h2
  refine ⟨n, n, es, fs, b1, b2, by omega, by omega, fun _ z H' e _ hz => q z H' e ⟨_, hz, ?_, fun row r0 r1 => ?_⟩, fun z => absurd rfl z⟩
  · have := join_len (r := r) (es := es) (fs := fs); omega
  · rw [join_in b1.2.2.1 b2.2.2.1 h0, c1 row r0 r1, c2 row r0 r1]
theorem isO2 {P : Prop} (h1 : Bx K H x n f m1) (h2 : Bx K H y n g m2) (q : P) : IsO K H "Bitmap" x (IsO K H "Bitmap" y P) := by
  obtain ⟨dx, vs, a⟩ := h1.slt
  obtain ⟨dy, ws, b⟩ := h2.slt
  exact .of a (.of b q)
theorem bx_and (h1 : Bx K H x n f m1) (h2 : Bx K H y n g m2) (l1 : m1 ≤ 50000) (l2 : m2 ≤ 50000) (q : ∀ z H', Same H H' → Bx K H' z n (fun row => rAnd (f row) (g row)) (m1 + m2) → Q (.ref z) H') : IsO K H "Bitmap" x (IsO K H "Bitmap" y (sp_Bitmapdd_anddd K [.ref x, .ref y] H Q E)) := isO2 h1 h2 ⟨x, y, rfl, spJoin_of h1 h2 l1 l2 rfl q⟩
theorem bx_or (h1 : Bx K H x n f m1) (h2 : Bx K H y n g m2) (l1 : m1 ≤ 50000) (l2 : m2 ≤ 50000) (q : ∀ z H', Same H H' → Bx K H' z n (fun row => rOr (f row) (g row)) (m1 + m2) → Q (.ref z) H') : IsO K H "Bitmap" x (IsO K H "Bitmap" y (sp_Bitmapdd_ordd K [.ref x, .ref y] H Q E)) := isO2 h1 h2 ⟨x, y, rfl, spJoin_of h1 h2 l1 l2 rfl q⟩
theorem bx_xor (h1 : Bx K H x n f m1) (h2 : Bx K H y n g m2) (l1 : m1 ≤ 50000) (l2 : m2 ≤ 50000) (q : ∀ z H', Same H H' → Bx K H' z n (fun row => rXor (f row) (g row)) (m1 + m2) → Q (.ref z) H') : IsO K H "Bitmap" x (IsO K H "Bitmap" y (sp_Bitmapdd_xordd K [.ref x, .ref y] H Q E)) := isO2 h1 h2 ⟨x, y, rfl, spJoin_of h1 h2 l1 l2 rfl q⟩
theorem bx_sub (h1 : Bx K H x n f m1) (h2 : Bx K H y n g m2) (l1 : m1 ≤ 50000) (l2 : m2 ≤ 50000) (q : ∀ z H', Same H H' → Bx K H' z n (fun row => rLess (f row) (g row)) (m1 + m2) → Q (.ref z) H') : IsO K H "Bitmap" x (IsO K H "Bitmap" y (sp_Bitmapdd_subdd K [.ref x, .ref y] H Q E)) := isO2 h1 h2 ⟨x, y, rfl, spJoin_of h1 h2 l1 l2 rfl q⟩
theorem bx_inv (h1 : Bx K H x n f m1) (l1 : m1 ≤ 50000) (q : ∀ z H', Same H H' → Bx K H' z n (fun row => !(f row)) (m1 + 1) → Q (.ref z) H') : IsO K H "Bitmap" x (sp_Bitmapdd_invertdd K [.ref x] H Q E) := by
  obtain ⟨dx, vs, a⟩ := h1.slt
  obtain ⟨es, b1, a1, c1⟩ := h1
  refine .of a ⟨x, n, es, rfl, b1, by omega, fun z H' e _ hz => q z H' e ⟨_, hz, ?_, fun row r0 r1 => ?_⟩⟩
  · have := turned_len (ns := es) (size := n); omega
  · rw [turned_in b1.2.2.1 r0 r1, c1 row r0 r1]
end
/-! ### counts -/
theorem add4 (a b c d : Int) : (a + b) + (c + d) = (a + c) + (b + d) := by omega
def cntF (f : Int → Bool) : Nat → Int
  | 0 => 0
  | k + 1 => cntF f k + (if f k then 1 else 0)
def altF (row : Int) : List Int → Int → Int
  | [], _ => 0
  | e :: r, s => (if e ≤ row then s else 0) + altF row r (-s)
theorem rank_step (row : Int) : ∀ (es : List Int) (s : Int), rankF (row + 1) es s = rankF row es s + altF row es s
  | [], _ => rfl
  | e :: r, s => by
    show (if e < row + 1 then (row + 1 - e) * s else 0) + rankF (row + 1) r (-s) = ((if e < row then (row - e) * s else 0) + rankF row r (-s)) + ((if e ≤ row then s else 0) + altF row r (-s))
    rw [rank_step row r (-s)]
    have k : (if e < row + 1 then (row + 1 - e) * s else 0) = (if e < row then (row - e) * s else 0) + (if e ≤ row then s else 0) := by
      by_cases h : e < row
      · rw [if_pos (by omega), if_pos h, if_pos (by omega), show row + 1 - e = (row - e) + 1 by omega, Int.add_mul, Int.one_mul]
      · by_cases h2 : e = row
        · rw [if_pos (by omega), if_neg h, if_pos (by omega), h2, show row + 1 - row = 1 by omega, Int.one_mul, Int.zero_add]
        · rw [if_neg (by omega), if_neg h, if_neg (by omega)]; rfl
    rw [k]; omega
theorem alt_in (row : Int) : ∀ (es : List Int) (s : Int), es.Pairwise (· < ·) → altF row es s = if inB es row then s else 0
  | [], s, _ => rfl
  | e :: r, s, h => by
    obtain ⟨h1, h2⟩ := List.pairwise_cons.mp h
    show (if e ≤ row then s else 0) + altF row r (-s) = _
    rw [alt_in row r (-s) h2, inB_cons]
    by_cases he : e ≤ row
    · rw [if_pos he, if_pos he]
      cases inB r row <;> simp <;> omega
    · rw [if_neg he, if_neg he, inB_before fun w hw => by have := h1 w hw; omega]; rfl
theorem rank_zero : ∀ (es : List Int) (s : Int), (∀ x ∈ es, 0 ≤ x) → rankF 0 es s = 0
  | [], _, _ => rfl
  | e :: r, s, h => by
    show (if e < 0 then (0 - e) * s else 0) + rankF 0 r (-s) = 0
    rw [if_neg (by have := h e (List.mem_cons_self ..); omega), rank_zero r (-s) fun x hx => h x (List.mem_cons_of_mem _ hx)]; rfl
theorem rank_cnt {n : Int} {es : List Int} (h : Ends n es) : ∀ k : Nat, rankF (k : Int) es 1 = cntF (inB es) k
  | 0 => rank_zero es 1 fun x hx => (h.2 x hx).1
  | k + 1 => by
    show rankF ((k : Int) + 1) es 1 = cntF (inB es) k + _
    rw [rank_step, rank_cnt h k, alt_in _ _ _ h.1]
theorem cnt_congr {f g : Int → Bool} : ∀ k : Nat, (∀ j : Nat, j < k → f j = g j) → cntF f k = cntF g k
  | 0, _ => rfl
  | k + 1, h => by
    show cntF f k + _ = cntF g k + _
    rw [cnt_congr k fun j hj => h j (by omega), h k (by omega)]
theorem cnt_two (f g : Int → Bool) : ∀ k : Nat, cntF f k + cntF g k = cntF (fun r => rOr (f r) (g r)) k + cntF (fun r => rAnd (f r) (g r)) k
  | 0 => rfl
  | k + 1 => by
    have ih := cnt_two f g k
    have e : (if f k then (1 : Int) else 0) + (if g k then 1 else 0) = (if rOr (f k) (g k) then 1 else 0) + (if rAnd (f k) (g k) then 1 else 0) := by cases f k <;> cases g k <;> rfl
    exact (add4 _ _ _ _).trans ((congr (congrArg (· + ·) ih) e).trans (add4 _ _ _ _))
theorem cnt_not (f : Int → Bool) : ∀ k : Nat, cntF f k + cntF (fun r => !(f r)) k = k
  | 0 => rfl
  | k + 1 => by
    have ih := cnt_not f k
    have e : (if f k then (1 : Int) else 0) + (if !(f k) then 1 else 0) = 1 := by cases f k <;> rfl
    exact (add4 _ _ _ _).trans (congr (congrArg (· + ·) ih) e)
theorem cnt_all {f : Int → Bool} (h : ∀ r, f r = true) : ∀ k : Nat, cntF f k = k
  | 0 => rfl
  | k + 1 => by
    show cntF f k + _ = ((k + 1 : Nat) : Int)
    rw [cnt_all h k, h]; simp
theorem cnt_none {f : Int → Bool} (h : ∀ r, f r = false) : ∀ k : Nat, cntF f k = 0
  | 0 => rfl
  | k + 1 => by
    show cntF f k + _ = 0
    rw [cnt_none h k, h]; simp
section
variable {K : Frag} {H : Hp} {x y : Addr} {n : Int} {f g : Int → Bool} {m1 m2 : Nat} {Q : VK} {E : XK}
theorem bx_ones (h1 : Bx K H x n f m1) (l1 : m1 ≤ 50000) (hn : n ≤ 2 * 10 ^ 18) (q : ∀ H', Same H H' → Q (.int (cntF f n.toNat)) H') : IsO K H "Bitmap" x (sp_Bitmap_ones K [.ref x] H Q E) := by
  obtain ⟨dx, vs, a⟩ := h1.slt
  obtain ⟨es, b1, a1, c1⟩ := h1
  have n0 := b1.2.1
  refine .of a ⟨x, n, es, rfl, b1, hn, by omega, fun H' e => ?_⟩
  have z := rank_cnt b1.2.2.1 n.toNat
  rw [Int.toNat_of_nonneg n0, cnt_congr n.toNat fun j hj => c1 j (by omega) (by omega)] at z
  rw [z]
  exact q H' e
theorem bx_rank {row : Int} (h1 : Bx K H x n f m1) (l1 : m1 ≤ 50000) (hn : n ≤ 2 * 10 ^ 18) (r0 : 0 ≤ row) (r1 : row ≤ n) (q : ∀ H', Same H H' → Q (.int (cntF f row.toNat)) H') : sp_Bitmap_rank K [.ref x, .int row] H Q E := by
  obtain ⟨es, b1, a1, c1⟩ := h1
  refine ⟨x, n, row, es, rfl, b1, hn, by omega, fun _ _ H' e => ?_, fun z => absurd ⟨r0, r1⟩ z⟩
  have z := rank_cnt b1.2.2.1 row.toNat
  rw [Int.toNat_of_nonneg r0, cnt_congr row.toNat fun j hj => c1 j (by omega) (by omega)] at z
  rw [z]
  exact q H' e
end
end S
namespace S
open PySem PySem.Spec PyProof.Rows L2
def t_Answer_unknown (K : Frag) (E : XK) : TS :=
    tRet (tOp (oOwn K "Bitmap" (sp_Bitmapdd_subdd K) E oSub) (tOp (oOwn K "Bitmap" (sp_Bitmapdd_subdd K) E oSub) (dAt K "rows" (dVar 0)) (dAt K "yes" (dVar 0))) (dAt K "no" (dVar 0)))
end S
namespace S
open PySem PySem.Spec PyProof.Rows L2
def t_Answer_surely (K : Frag) (E : XK) : TS :=
    tRet (dGiv (DF K "Answer" [] ["rows", "yes", "no"]) (dMake K "Answer" (sp_Answerdd_initdd K) (EW E) (tCons (dAt K "rows" (dVar 0)) (tCons (dAt K "yes" (dVar 0)) (tCons (tOp (oOwn K "Bitmap" (sp_Bitmapdd_subdd K) E oSub) (dAt K "rows" (dVar 0)) (dAt K "yes" (dVar 0))) (tNil))))))
end S
namespace S
open PySem PySem.Spec PyProof.Rows L2
def t_Answerdd_anddd_1 (K : Frag) (E : XK) : TS :=
    tRet (dGiv (DF K "Answer" [] ["rows", "yes", "no"]) (dMake K "Answer" (sp_Answerdd_initdd K) (EW E) (tCons (dAt K "rows" (dVar 0)) (tCons (tOp (oOwn K "Bitmap" (sp_Bitmapdd_anddd K) E oAnd) (dAt K "yes" (dVar 0)) (dAt K "yes" (dVar 1))) (tCons (tOp (oOwn K "Bitmap" (sp_Bitmapdd_ordd K) E oOr) (dAt K "no" (dVar 0)) (dAt K "no" (dVar 1))) (tNil))))))
def t_Answerdd_anddd (K : Frag) (E : XK) : TS :=
    tSeq (dIfS (dNot (dCmpT (oEqO K "Bitmap" (sp_Bitmapdd_eqdd K) E) (dAt K "rows" (dVar 0)) (dAt K "rows" (dVar 1)))) (dGivS (ExF K "BadAnswer" ["SliceError"]) (dRaise K "BadAnswer" (WD E))) (tNext))
    (stop (t_Answerdd_anddd_1 K E))
end S
namespace S
open PySem PySem.Spec PyProof.Rows L2
def t_Answerdd_ordd_1 (K : Frag) (E : XK) : TS :=
    tRet (dGiv (DF K "Answer" [] ["rows", "yes", "no"]) (dMake K "Answer" (sp_Answerdd_initdd K) (EW E) (tCons (dAt K "rows" (dVar 0)) (tCons (tOp (oOwn K "Bitmap" (sp_Bitmapdd_ordd K) E oOr) (dAt K "yes" (dVar 0)) (dAt K "yes" (dVar 1))) (tCons (tOp (oOwn K "Bitmap" (sp_Bitmapdd_anddd K) E oAnd) (dAt K "no" (dVar 0)) (dAt K "no" (dVar 1))) (tNil))))))
def t_Answerdd_ordd (K : Frag) (E : XK) : TS :=
    tSeq (dIfS (dNot (dCmpT (oEqO K "Bitmap" (sp_Bitmapdd_eqdd K) E) (dAt K "rows" (dVar 0)) (dAt K "rows" (dVar 1)))) (dGivS (ExF K "BadAnswer" ["SliceError"]) (dRaise K "BadAnswer" (WD E))) (tNext))
    (stop (t_Answerdd_ordd_1 K E))
end S
namespace S
open PySem PySem.Spec PyProof.Rows L2
def t_Answerdd_invertdd (K : Frag) (E : XK) : TS :=
    tRet (dGiv (DF K "Answer" [] ["rows", "yes", "no"]) (dMake K "Answer" (sp_Answerdd_initdd K) (EW E) (tCons (dAt K "rows" (dVar 0)) (tCons (dAt K "no" (dVar 0)) (tCons (dAt K "yes" (dVar 0)) (tNil))))))
end S
namespace S
open PySem PySem.Spec PyProof.Rows L2
def t_Answerdd_eqdd (K : Frag) (E : XK) : TS :=
    tRet (dAndV (dGiv (MF K "Answer" [] ["object"]) (tCB (cIsi K) (tCons (dVar 1) (tCons (tC (.ref (He.ga K "Answer"))) (tNil))))) (dAndV (tOp (oEqO K "Bitmap" (sp_Bitmapdd_eqdd K) E) (dAt K "rows" (dVar 0)) (dAt K "rows" (dVar 1))) (dAndV (tOp (oEqO K "Bitmap" (sp_Bitmapdd_eqdd K) E) (dAt K "yes" (dVar 0)) (dAt K "yes" (dVar 1))) (tOp (oEqO K "Bitmap" (sp_Bitmapdd_eqdd K) E) (dAt K "no" (dVar 0)) (dAt K "no" (dVar 1))))))
end S
-- fn: Answer.unknown Answer.surely Answer.__and__ Answer.__or__ Answer.__invert__ Answer.__eq__
-- law: k46
-- own: BitAnd=Bitmap BitOr=Bitmap Sub=Bitmap Eq=Bitmap
-- deps: Answer_init Bx
namespace S
open PySem PySem.Spec PyProof.Rows L2
/-- the same rows of the same size -/
def sameR (n m : Int) (f g : Int → Bool) : Prop := n = m ∧ ∀ row, 0 ≤ row → row < n → f row = g row
theorem bs_eqR {K : Frag} {H : Hp} {x y : Addr} {n m : Int} {f g : Int → Bool} {S S' : List Int} {E : XK} {Q : VK} {k : Bool → Prop} (h : Bs K H x n f S) (h2 : Bs K H y m g S') (q1 : sameR n m f g → Q (.bl true) H) (q2 : ¬ sameR n m f g → Q (.bl false) H) : EqOr K "Bitmap" H x y (sp_Bitmapdd_eqdd K [.ref x, .ref y] H Q E) k := by
  obtain ⟨dx, vs, hs⟩ := h.slt
  obtain ⟨dy, ws, hs2⟩ := h2.slt
  obtain ⟨es, hb, _, hr⟩ := h
  obtain ⟨fs, hb2, _, hr2⟩ := h2
  refine EqOr.own hs hs2 ⟨x, .ref y, n, m, es, fs, rfl, hb, .inl ⟨y, rfl, hb2⟩, ?_⟩
  by_cases hz : n = m ∧ es = fs
  · rw [decide_eq_true hz]
    obtain ⟨rfl, rfl⟩ := hz
    exact q1 ⟨rfl, fun row r0 r1 => by rw [← hr row r0 r1, ← hr2 row r0 r1]⟩
  · rw [decide_eq_false hz]
    refine q2 fun s => hz ⟨s.1, ?_⟩
    obtain ⟨rfl, s⟩ := s
    exact uniq_ends es fs 0 hb.2.2.1.1 hb2.2.2.1.1 hb.2.2.1.2 hb2.2.2.1.2 fun row r0 r1 => by rw [hr row r0 r1, hr2 row r0 r1]; exact s row r0 r1
section
variable {K : Frag} {H : Hp} {a : Addr} {n : Int} {S : List Int} {fR fY fN : Int → Bool}
def sp_Answer_unknown (K : Frag) : Sp := fun vs H Q _ => ∃ (a : Addr) (n : Int) (S : List Int) (fR fY fN : Int → Bool), vs = [.ref a] ∧ AnA K H a n S fR fY fN ∧ ∀ x H', Same H H' → H x = none → Bs K H' x n (fun r => rLess (rLess (fR r) (fY r)) (fN r)) S → Q (.ref x) H'
theorem pure_Answer_unknown {K : Frag} (vs : List V) (H : Hp) (Q : VK) (E : XK) (h : sp_Answer_unknown K vs H Q E) : t_Answer_unknown K E { nx := fun _ H' => Q .non H', rt := Q } (start ["self"] vs) H := by
  obtain ⟨a, n, S, fR, fY, fN, rfl, ⟨af, kn, ok, dx, r, y, z, ha, hr, hy, hz⟩, q⟩ := h
  walk_at "gx"
  refine Atr.df af ha rfl ?_
  refine Atr.df af ha rfl ?_
  refine bs_sub kn hr hy fun w1 H1 e1 n1 hw1 => ?_
  refine Atr.df af (e1 _ _ ha) rfl ?_
  refine bs_sub kn hw1 (hz.same e1) fun w2 H2 e2 n2 hw2 => ?_
  exact q w2 H2 (e1.trans e2) (same_none e1 n2) hw2
def sp_Answer_surely (K : Frag) : Sp := fun vs H Q _ => ∃ (a : Addr) (n : Int) (S : List Int) (fR fY fN : Int → Bool), vs = [.ref a] ∧ AnA K H a n S fR fY fN ∧ ∀ x H', Same H H' → H x = none → AnA K H' x n S fR fY (fun r => rLess (fR r) (fY r)) → Q (.ref x) H'
theorem pure_Answer_surely {K : Frag} (vs : List V) (H : Hp) (Q : VK) (E : XK) (h : sp_Answer_surely K vs H Q E) : t_Answer_surely K E { nx := fun _ H' => Q .non H', rt := Q } (start ["self"] vs) H := by
  obtain ⟨a, n, S, fR, fY, fN, rfl, ⟨af, kn, ok, dx, r, y, z, ha, hr, hy, hz⟩, q⟩ := h
  walk_at "gx"
  refine fun _ => ?_
  refine Atr.df af ha rfl ?_
  refine Atr.df af ha rfl ?_
  refine Atr.df af ha rfl ?_
  refine Atr.df af ha rfl ?_
  refine bs_sub kn hr hy fun w1 H1 e1 n1 hw1 => ?_
  have ok' : okA n fR fY (fun r => rLess (fR r) (fY r)) := fun row r0 r1 => ⟨fun g => by have := g.2; simp [rLess, g.1] at this, (ok row r0 r1).2.1, fun g => by
    have : fR row = true ∧ fY row = false := by simpa [rLess] using g
    exact this.1⟩
  refine mk_answer af kn (hr.same e1) (hy.same e1) hw1 (fun _ _ _ x H2 e2 nx hx => ?_) (fun _ _ nb => absurd ok' nb) (fun nb => absurd ⟨rfl, rfl⟩ nb)
  exact q x H2 (e1.trans e2) (same_none e1 nx) hx
def sp_Answerdd_invertdd (K : Frag) : Sp := fun vs H Q _ => ∃ (a : Addr) (n : Int) (S : List Int) (fR fY fN : Int → Bool), vs = [.ref a] ∧ AnA K H a n S fR fY fN ∧ ∀ x H', Same H H' → H x = none → AnA K H' x n S fR fN fY → Q (.ref x) H'
theorem pure_Answerdd_invertdd {K : Frag} (vs : List V) (H : Hp) (Q : VK) (E : XK) (h : sp_Answerdd_invertdd K vs H Q E) : t_Answerdd_invertdd K E { nx := fun _ H' => Q .non H', rt := Q } (start ["self"] vs) H := by
  obtain ⟨a, n, S, fR, fY, fN, rfl, ⟨af, kn, ok, dx, r, y, z, ha, hr, hy, hz⟩, q⟩ := h
  walk_at "gx"
  refine fun _ => ?_
  refine Atr.df af ha rfl ?_
  refine Atr.df af ha rfl ?_
  refine Atr.df af ha rfl ?_
  have ok' : okA n fR fN fY := fun row r0 r1 => ⟨fun g => (ok row r0 r1).1 ⟨g.2, g.1⟩, (ok row r0 r1).2.2, (ok row r0 r1).2.1⟩
  exact mk_answer af kn hr hz hy (fun _ _ _ x H2 e2 nx hx => q x H2 e2 nx hx) (fun _ _ nb => absurd ok' nb) (fun nb => absurd ⟨rfl, rfl⟩ nb)
def sp_Answerdd_anddd (K : Frag) : Sp := fun vs H Q E => ∃ (a b : Addr) (n m : Int) (S S' : List Int) (fR fY fN gR gY gN : Int → Bool), vs = [.ref a, .ref b] ∧ AnA K H a n S fR fY fN ∧ AnA K H b m S' gR gY gN ∧
  (sameR n m fR gR → S' = S ∧ ∀ x H', Same H H' → H x = none → AnA K H' x n S fR (fun r => rAnd (fY r) (gY r)) (fun r => rOr (fN r) (gN r)) → Q (.ref x) H') ∧ (¬ sameR n m fR gR → XF K "BadAnswer" → E (.ref (He.ga K "BadAnswer")) none H)
theorem pure_Answerdd_anddd {K : Frag} (vs : List V) (H : Hp) (Q : VK) (E : XK) (h : sp_Answerdd_anddd K vs H Q E) : t_Answerdd_anddd K E { nx := fun _ H' => Q .non H', rt := Q } (start ["self", "other"] vs) H := by
  obtain ⟨a, b, n, m, S, S', fR, fY, fN, gR, gY, gN, rfl, ⟨af, kn, ok, dx, r, y, z, ha, hr, hy, hz⟩, ⟨_, kn2, ok2, dx2, r2, y2, z2, hb, hr2, hy2, hz2⟩, good, bad⟩ := h
  walk_at "gx"
  refine Atr.df af ha rfl ?_
  refine Atr.df af hb rfl ?_
  refine bs_eqR hr hr2 (fun s => ?_) (fun s => ?_)
  · obtain ⟨rfl, q⟩ := good s
    obtain ⟨rfl, s⟩ := s
    refine ⟨?_⟩
    walk_at "gx"
    refine fun _ => ?_
    refine Atr.df af ha rfl ?_
    refine Atr.df af ha rfl ?_
    refine Atr.df af hb rfl ?_
    refine bs_and kn hy hy2 fun w1 H1 e1 n1 hw1 => ?_
    refine Atr.df af (e1 _ _ ha) rfl ?_
    refine Atr.df af (e1 _ _ hb) rfl ?_
    refine bs_or kn (hz.same e1) (hz2.same e1) fun w2 H2 e2 n2 hw2 => ?_
    have ok' : okA n fR (fun r => rAnd (fY r) (gY r)) (fun r => rOr (fN r) (gN r)) := fun row r0 r1 => by
      show ¬ (rAnd (fY row) (gY row) = true ∧ rOr (fN row) (gN row) = true) ∧ (rAnd (fY row) (gY row) = true → fR row = true) ∧ (rOr (fN row) (gN row) = true → fR row = true)
      have h1 := ok row r0 r1
      have h2 := ok2 row r0 r1
      have h3 := s row r0 r1
      revert h1 h2 h3
      cases fR row <;> cases fY row <;> cases fN row <;> cases gR row <;> cases gY row <;> cases gN row <;> decide
    refine mk_answer af kn (hr.same (e1.trans e2)) (hw1.same e2) hw2 (fun _ _ _ x H3 e3 nx hx => q x H3 ((e1.trans e2).trans e3) (same_none (e1.trans e2) nx) hx) (fun _ _ nb => absurd ok' nb) (fun nb => absurd ⟨rfl, rfl⟩ nb)
  · exact fun xf => bad s xf
def sp_Answerdd_ordd (K : Frag) : Sp := fun vs H Q E => ∃ (a b : Addr) (n m : Int) (S S' : List Int) (fR fY fN gR gY gN : Int → Bool), vs = [.ref a, .ref b] ∧ AnA K H a n S fR fY fN ∧ AnA K H b m S' gR gY gN ∧
  (sameR n m fR gR → S' = S ∧ ∀ x H', Same H H' → H x = none → AnA K H' x n S fR (fun r => rOr (fY r) (gY r)) (fun r => rAnd (fN r) (gN r)) → Q (.ref x) H') ∧ (¬ sameR n m fR gR → XF K "BadAnswer" → E (.ref (He.ga K "BadAnswer")) none H)
theorem pure_Answerdd_ordd {K : Frag} (vs : List V) (H : Hp) (Q : VK) (E : XK) (h : sp_Answerdd_ordd K vs H Q E) : t_Answerdd_ordd K E { nx := fun _ H' => Q .non H', rt := Q } (start ["self", "other"] vs) H := by
  obtain ⟨a, b, n, m, S, S', fR, fY, fN, gR, gY, gN, rfl, ⟨af, kn, ok, dx, r, y, z, ha, hr, hy, hz⟩, ⟨_, kn2, ok2, dx2, r2, y2, z2, hb, hr2, hy2, hz2⟩, good, bad⟩ := h
  walk_at "gx"
  refine Atr.df af ha rfl ?_
  refine Atr.df af hb rfl ?_
  refine bs_eqR hr hr2 (fun s => ?_) (fun s => ?_)
  · obtain ⟨rfl, q⟩ := good s
    obtain ⟨rfl, s⟩ := s
    refine ⟨?_⟩
    walk_at "gx"
    refine fun _ => ?_
    refine Atr.df af ha rfl ?_
    refine Atr.df af ha rfl ?_
    refine Atr.df af hb rfl ?_
    refine bs_or kn hy hy2 fun w1 H1 e1 n1 hw1 => ?_
    refine Atr.df af (e1 _ _ ha) rfl ?_
    refine Atr.df af (e1 _ _ hb) rfl ?_
    refine bs_and kn (hz.same e1) (hz2.same e1) fun w2 H2 e2 n2 hw2 => ?_
    have ok' : okA n fR (fun r => rOr (fY r) (gY r)) (fun r => rAnd (fN r) (gN r)) := fun row r0 r1 => by
      show ¬ (rOr (fY row) (gY row) = true ∧ rAnd (fN row) (gN row) = true) ∧ (rOr (fY row) (gY row) = true → fR row = true) ∧ (rAnd (fN row) (gN row) = true → fR row = true)
      have h1 := ok row r0 r1
      have h2 := ok2 row r0 r1
      have h3 := s row r0 r1
      revert h1 h2 h3
      cases fR row <;> cases fY row <;> cases fN row <;> cases gR row <;> cases gY row <;> cases gN row <;> decide
    refine mk_answer af kn (hr.same (e1.trans e2)) (hw1.same e2) hw2 (fun _ _ _ x H3 e3 nx hx => q x H3 ((e1.trans e2).trans e3) (same_none (e1.trans e2) nx) hx) (fun _ _ nb => absurd ok' nb) (fun nb => absurd ⟨rfl, rfl⟩ nb)
  · exact fun xf => bad s xf
/-- y is no answer -/
def NoAn (K : Frag) (H : Hp) (y : V) : Prop := ∀ k : Bool → Prop, MF K "Answer" [] ["object"] → k false → Isi K H y (.ref (He.ga K "Answer")) k
def sp_Answerdd_eqdd (K : Frag) : Sp := fun vs H Q _ => ∃ (a : Addr) (y : V) (n : Int) (S : List Int) (fR fY fN : Int → Bool), vs = [.ref a, y] ∧ AnA K H a n S fR fY fN ∧
  ((NoAn K H y ∧ Q (.bl false) H) ∨ ∃ (b : Addr) (m : Int) (S' : List Int) (gR gY gN : Int → Bool), y = .ref b ∧ AnA K H b m S' gR gY gN ∧
    (sameR n m fR gR ∧ sameR n m fY gY ∧ sameR n m fN gN → Q (.bl true) H) ∧ (¬ (sameR n m fR gR ∧ sameR n m fY gY ∧ sameR n m fN gN) → Q (.bl false) H))
theorem pure_Answerdd_eqdd {K : Frag} (vs : List V) (H : Hp) (Q : VK) (E : XK) (h : sp_Answerdd_eqdd K vs H Q E) : t_Answerdd_eqdd K E { nx := fun _ H' => Q .non H', rt := Q } (start ["self", "other"] vs) H := by
  obtain ⟨a, v, n, S, fR, fY, fN, rfl, ⟨af, kn, ok, dx, r, y, z, ha, hr, hy, hz⟩, h⟩ := h
  walk_at "gx"
  refine fun mf => ?_
  rcases h with ⟨hn, q⟩ | ⟨b, m, S', gR, gY, gN, rfl, ⟨_, kn2, ok2, dx2, r2, y2, z2, hb, hr2, hy2, hz2⟩, q1, q2⟩
  · exact hn _ mf q
  · refine Isi.df af hb mf ?_
    walk_at "gx"
    refine Atr.df af ha rfl ?_
    refine Atr.df af hb rfl ?_
    refine bs_eqR hr hr2 (fun s => ?_) (fun s => q2 fun g => s g.1)
    refine Atr.df af ha rfl ?_
    refine Atr.df af hb rfl ?_
    refine bs_eqR hy hy2 (fun s2 => ?_) (fun s => q2 fun g => s g.2.1)
    refine Atr.df af ha rfl ?_
    refine Atr.df af hb rfl ?_
    exact bs_eqR hz hz2 (fun s3 => q1 ⟨s, s2, s3⟩) (fun s3 => q2 fun g => s3 g.2.2)
end
end S
namespace S
open PySem PySem.Spec PyProof.Rows L2
def t__law_is_number (K : Frag) (E : XK) : TS :=
    tRet (dAndV (tCB (cIsi K) (tCons (dVar 0) (tCons (tC (.ty "int")) (tNil)))) (dNotV (tCB (cIsi K) (tCons (dVar 0) (tCons (tC (.ty "bool")) (tNil))))))
end S
-- fn: _law_is_number
-- law: k03
-- deps: D0
namespace S
open PySem PySem.Spec PyProof.Rows L2
def sp__law_is_number (K : Frag) : Sp := fun vs H Q _ => ∃ (i : Int), vs = [.int i] ∧ Q (.bl true) H
theorem isi_int {K : Frag} {H : Hp} {i : Int} {k : Bool → Prop} (q : k true) : Isi K H (.int i) (.type "int") k := Isi.of (.base (.int i)) rfl q
theorem isi_int_bool {K : Frag} {H : Hp} {i : Int} {k : Bool → Prop} (q : k false) : Isi K H (.int i) (.type "bool") k := Isi.of (.base (.int i)) rfl q
theorem pure__law_is_number {K : Frag} (vs : List V) (H : Hp) (Q : VK) (E : XK) (h : sp__law_is_number K vs H Q E) : t__law_is_number K E { nx := fun _ H' => Q .non H', rt := Q } (start ["_law_x"] vs) H := by
  obtain ⟨i, rfl, q⟩ := h
  refine isi_int ?_
  refine isi_int_bool ?_
  exact q
end S
-- deps: Bs Cmp Nef Answer_ops
/-! ## masks: rows as the bits of a number -/
namespace S
open PySem PySem.Spec PyProof.Rows L2
def bitN (m : Nat) (r : Int) : Bool := m.testBit r.toNat
theorem bit_and (m : Nat) (r : Int) : decide (Builtin.bitAnd ((m : Int) / 2 ^ r.toNat) 1 = 1) = bitN m r := by
  rw [bitAnd_m1]
  unfold bitN
  rw [Nat.testBit_eq_decide_div_mod_eq]
  have : ((m : Int) / 2 ^ r.toNat) % 2 = ((m / 2 ^ r.toNat % 2 : Nat) : Int) := by
    rw [Int.natCast_emod, Int.natCast_ediv, Int.natCast_pow]; rfl
  rw [this]
  by_cases h : m / 2 ^ r.toNat % 2 = 1
  · rw [decide_eq_true h, decide_eq_true (by omega)]
  · rw [decide_eq_false h, decide_eq_false (by omega)]
theorem bit_val (m : Nat) (r : Int) : Builtin.bitAnd ((m : Int) / 2 ^ r.toNat) 1 = if bitN m r = true then 1 else 0 := by
  have h := bit_and m r
  rw [bitAnd_m1] at h ⊢
  by_cases g : bitN m r = true
  · rw [g] at h; rw [if_pos g]; exact of_decide_eq_true h
  · rw [if_neg g]
    have g : bitN m r = false := by simpa using g
    rw [g] at h
    have := of_decide_eq_false h
    omega
/-- the row ahead -/
def preN (m : Nat) : Nat → Bool
  | 0 => false
  | j + 1 => m.testBit j
theorem bit_twice (m j : Nat) : bitN (2 * m) (j : Int) = preN m j := by
  show (2 * m).testBit j = preN m j
  cases j with
  | zero => show (2 * m).testBit 0 = false; rw [Nat.testBit_zero]; simp
  | succ j => show (2 * m).testBit (j + 1) = m.testBit j; rw [Nat.testBit_succ]; congr 1; omega
/-- the ends of a mask's rows -/
def chgE (m n : Nat) : List Int := ((List.range n).filter fun j => m.testBit j != preN m j).map fun j : Nat => (j : Int)
theorem inB_app1 (es : List Int) (x row : Int) : inB (es ++ [x]) row = if x ≤ row then !(inB es row) else inB es row := by
  unfold inB
  rw [List.foldl_append]; rfl
theorem chgE_in (m : Nat) : ∀ n row : Nat, inB (chgE m n) row = if row < n then m.testBit row else preN m n
  | 0, row => by rw [if_neg (Nat.not_lt_zero _)]; rfl
  | n + 1, row => by
    have ih := chgE_in m n row
    have e : chgE m (n + 1) = chgE m n ++ (if (m.testBit n != preN m n) = true then [(n : Int)] else []) := by
      unfold chgE
      rw [List.range_succ, List.filter_append, List.map_append]
      by_cases h : (m.testBit n != preN m n) = true
      · rw [if_pos h]; simp [List.filter_cons, h]
      · rw [if_neg h]; simp [List.filter_cons, h]
    rw [e]
    show _ = if row < n + 1 then m.testBit row else m.testBit n
    by_cases h : (m.testBit n != preN m n) = true
    · rw [if_pos h, inB_app1, ih]
      have h : m.testBit n ≠ preN m n := by simpa using h
      by_cases c : row < n
      · rw [if_pos c, if_neg (by omega), if_pos (by omega)]
      · rw [if_neg c, if_pos (by omega)]
        have hh : (!preN m n) = m.testBit n := by
          cases h1 : m.testBit n <;> cases h2 : preN m n <;> rw [h1, h2] at h <;> first | rfl | exact absurd rfl h
        by_cases g : row < n + 1
        · rw [if_pos g, hh]; congr 1; omega
        · rw [if_neg g, hh]
    · rw [if_neg h, List.append_nil, ih]
      have h : m.testBit n = preN m n := by simpa using h
      by_cases c : row < n
      · rw [if_pos c, if_pos (by omega)]
      · rw [if_neg c]
        by_cases g : row < n + 1
        · rw [if_pos g, ← h]; congr 1; omega
        · rw [if_neg g, h]
theorem chgE_mem {m n : Nat} {z : Int} (h : z ∈ chgE m n) : 0 ≤ z ∧ z < n := by
  obtain ⟨j, hj, rfl⟩ := List.mem_map.mp h
  have := List.mem_range.mp (List.mem_filter.mp hj).1
  omega
theorem chgE_asc (m n : Nat) : (chgE m n).Pairwise (· < ·) := by
  unfold chgE
  rw [List.pairwise_map]
  exact (List.Pairwise.filter _ List.pairwise_lt_range).imp fun h => by omega
theorem chgE_ends (m n : Nat) : Ends (n : Int) (chgE m n) := ⟨chgE_asc m n, fun _ h => chgE_mem h⟩
/-- the ends that may occur -/
def S46 : List Int := (List.range 12).map fun j : Nat => (j : Int)
theorem kn46 : Kn S46 := ⟨by unfold S46; decide, by unfold S46; decide⟩
theorem mem46 {z : Int} (h0 : 0 ≤ z) (h1 : z < 12) : z ∈ S46 := List.mem_map.mpr ⟨z.toNat, List.mem_range.mpr (by omega), by omega⟩
/-! ### three masks -/
def okM (R Y N : Nat) : Prop := Y &&& N = 0 ∧ Y &&& R = Y ∧ N &&& R = N
theorem sub_bits : ∀ (n R Y : Nat), R < 2 ^ n → (∀ i, Y.testBit i = true → R.testBit i = true) → Y ≤ R ∧ ∀ i, (R - Y).testBit i = (R.testBit i && !Y.testBit i)
  | 0, R, Y, hR, h => by
    have hR : R = 0 := by rw [Nat.pow_zero] at hR; omega
    subst hR
    have hY : Y = 0 := Nat.eq_of_testBit_eq fun i => by
      cases g : Y.testBit i with
      | false => rw [Nat.zero_testBit]
      | true => have := h i g; rw [Nat.zero_testBit] at this; cases this
    subst hY
    exact ⟨Nat.le_refl _, fun i => by simp⟩
  | n + 1, R, Y, hR, h => by
    rw [Nat.pow_succ] at hR
    obtain ⟨l, ih⟩ := sub_bits n (R / 2) (Y / 2) (by omega) fun i hi => by
      rw [← Nat.testBit_succ] at hi ⊢
      exact h _ hi
    have h0 : Y % 2 = 1 → R % 2 = 1 := fun g => by
      have := h 0 (by rw [Nat.testBit_zero]; exact decide_eq_true g)
      rw [Nat.testBit_zero] at this
      exact of_decide_eq_true this
    have m1 := Nat.mod_two_eq_zero_or_one Y
    have m2 := Nat.mod_two_eq_zero_or_one R
    have le : Y ≤ R := by omega
    refine ⟨le, fun i => ?_⟩
    cases i with
    | zero =>
      rw [Nat.testBit_zero, Nat.testBit_zero, Nat.testBit_zero]
      have e : (R - Y) % 2 = R % 2 - Y % 2 := by omega
      rw [e]
      rcases m1 with g | g <;> rcases m2 with k | k <;> rw [g, k] <;> first | rfl | (have := h0 g; omega)
    | succ i =>
      rw [Nat.testBit_succ, Nat.testBit_succ, Nat.testBit_succ]
      have e : (R - Y) / 2 = R / 2 - Y / 2 := by omega
      rw [e]
      exact ih i
theorem and_in {Y R : Nat} (h : Y &&& R = Y) (i : Nat) (g : Y.testBit i = true) : R.testBit i = true := by
  rw [← h, Nat.testBit_and] at g
  exact (Bool.and_eq_true_iff.mp g).2
theorem in_and {Y R : Nat} (h : ∀ i, Y.testBit i = true → R.testBit i = true) : Y &&& R = Y := Nat.eq_of_testBit_eq fun i => by
  rw [Nat.testBit_and]
  have := h i
  revert this
  cases Y.testBit i <;> cases R.testBit i <;> decide
theorem apart {Y N : Nat} : Y &&& N = 0 ↔ ∀ i, ¬ (Y.testBit i = true ∧ N.testBit i = true) := by
  constructor
  · intro h i ⟨g1, g2⟩
    have : (Y &&& N).testBit i = true := by rw [Nat.testBit_and, g1, g2]; rfl
    rw [h, Nat.zero_testBit] at this; cases this
  · intro h
    refine Nat.eq_of_testBit_eq fun i => ?_
    rw [Nat.testBit_and, Nat.zero_testBit]
    have := h i
    revert this
    cases Y.testBit i <;> cases N.testBit i <;> decide
theorem lt_pow (R : Nat) : R < 2 ^ R := Nat.lt_two_pow_self
theorem sub_in {Y R : Nat} (h : Y &&& R = Y) : Y ≤ R ∧ ((R : Int) - Y = ((R - Y : Nat) : Int)) ∧ ∀ i, (R - Y).testBit i = (R.testBit i && !Y.testBit i) := by
  obtain ⟨l, g⟩ := sub_bits R R Y (lt_pow R) (and_in h)
  exact ⟨l, by omega, g⟩
/-- the number of the rows left -/
theorem due_in {R Y N : Nat} (h : okM R Y N) : N ≤ R - Y ∧ Y ≤ R ∧ ∀ i, (R - Y - N).testBit i = ((R.testBit i && !Y.testBit i) && !N.testBit i) := by
  obtain ⟨h1, h2, h3⟩ := h
  obtain ⟨l, _, g⟩ := sub_in h2
  have hN : N &&& (R - Y) = N := in_and fun i hi => by
    rw [g, and_in h3 i hi]
    cases e : Y.testBit i with
    | false => rfl
    | true => exact absurd ⟨e, hi⟩ (apart.mp h1 i)
  obtain ⟨l2, _, g2⟩ := sub_in hN
  exact ⟨l2, l, fun i => by rw [g2, g]⟩
theorem low_eq {n a b : Nat} (ha : a < 2 ^ n) (hb : b < 2 ^ n) (h : ∀ i, i < n → a.testBit i = b.testBit i) : a = b := Nat.eq_of_testBit_eq fun i => by
  by_cases hi : i < n
  · exact h i hi
  · rw [Nat.testBit_lt_two_pow (Nat.lt_of_lt_of_le ha (Nat.pow_le_pow_right (by decide) (by omega))), Nat.testBit_lt_two_pow (Nat.lt_of_lt_of_le hb (Nat.pow_le_pow_right (by decide) (by omega)))]
/-- by the rows below n -/
theorem okM_iff {n R Y N : Nat} (hR : R < 2 ^ n) (hY : Y < 2 ^ n) (hN : N < 2 ^ n) : okM R Y N ↔ okA (n : Int) (bitN R) (bitN Y) (bitN N) := by
  have far : ∀ {m i : Nat}, m < 2 ^ n → ¬ i < n → m.testBit i = false := fun hm hi => Nat.testBit_lt_two_pow (Nat.lt_of_lt_of_le hm (Nat.pow_le_pow_right (by decide) (by omega)))
  constructor
  · rintro ⟨h1, h2, h3⟩ row r0 r1
    exact ⟨apart.mp h1 _, and_in h2 _, and_in h3 _⟩
  · intro h
    have key : ∀ i, ¬ (Y.testBit i = true ∧ N.testBit i = true) ∧ (Y.testBit i = true → R.testBit i = true) ∧ (N.testBit i = true → R.testBit i = true) := fun i => by
      by_cases hi : i < n
      · exact h (i : Int) (by omega) (by omega)
      · rw [far hY hi, far hN hi]; simp
    exact ⟨apart.mpr fun i => (key i).1, in_and fun i => (key i).2.1, in_and fun i => (key i).2.2⟩
theorem sameM {n a b : Nat} (ha : a < 2 ^ n) (hb : b < 2 ^ n) : sameR (n : Int) (n : Int) (bitN a) (bitN b) ↔ a = b := by
  constructor
  · intro h
    exact low_eq ha hb fun i hi => h.2 (i : Int) (by omega) (by omega)
  · rintro rfl
    exact ⟨rfl, fun _ _ _ => rfl⟩
theorem ors (a b : Nat) : Builtin.bitOr (a : Int) (b : Int) = ((a ||| b : Nat) : Int) := by
  rw [bitOr_nn (Int.natCast_nonneg a) (Int.natCast_nonneg b), Int.toNat_natCast, Int.toNat_natCast]
end S
namespace S
open PySem PySem.Spec PyProof.Rows L2
def t__law_is_b2 (K : Frag) (E : XK) : TS :=
    dIfS (dCmpT (oNe K) (tOp (oInO K "Bitmap" (sp_Bitmapdd_containsdd K) E) (dVar 6) (tOp (oIx K) (dVar 4) (dVar 5))) (tOp (oEq K) (tOp oAnd (tOp oShr (tOp (oIx K) (dVar 3) (dVar 5)) (dVar 6)) (tC (.int 1))) (tC (.int 1)))) (tRet (tC (.bl false))) (tNext)
def t__law_is_b1_1 (K : Frag) (E : XK) : TS :=
    dFor (iRng (tCons (dVar 1) (tNil))) (gName 6) (t__law_is_b2 K E)
def t__law_is_b1 (K : Frag) (E : XK) : TS :=
    tSeq (dIfS (dOr (dNot (dTest K (dGiv (MF K "Bitmap" [] ["object"]) (tCB (cIsi K) (tCons (tOp (oIx K) (dVar 4) (dVar 5)) (tCons (tC (.ref (He.ga K "Bitmap"))) (tNil))))))) (dOr (dNot (dTest K (dCall (sp__law_is_number K) (EW E) (tCons (dAt K "size" (tOp (oIx K) (dVar 4) (dVar 5))) (tNil))))) (dCmpT (oNe K) (dAt K "size" (tOp (oIx K) (dVar 4) (dVar 5))) (dVar 1)))) (tRet (tC (.bl false))) (tNext))
    (stop (t__law_is_b1_1 K E))
def t__law_is_4 (K : Frag) (E : XK) : TS :=
    tRet (tC (.bl true))
def t__law_is_3 (K : Frag) (E : XK) : TS :=
    tSeq (dFor (iRng (tCons (tC (.int 4)) (tNil))) (gName 5) (t__law_is_b1 K E))
    (stop (t__law_is_4 K E))
def t__law_is_2 (K : Frag) (E : XK) : TS :=
    tSeq (tAsg (dLst (tCons (dAt K "rows" (dVar 0)) (tCons (dAt K "yes" (dVar 0)) (tCons (dAt K "no" (dVar 0)) (tCons (dPropD K "Answer" "unknown" (sp_Answer_unknown K) (dVar 0)) (tNil)))))) (gName 4))
    (stop (t__law_is_3 K E))
def t__law_is_1 (K : Frag) (E : XK) : TS :=
    tSeq (tAsg (dLst (tCons (tOp (oIx K) (dVar 2) (tC (.int 0))) (tCons (tOp (oIx K) (dVar 2) (tC (.int 1))) (tCons (tOp (oIx K) (dVar 2) (tC (.int 2))) (tCons (tOp oSub (tOp oSub (tOp (oIx K) (dVar 2) (tC (.int 0))) (tOp (oIx K) (dVar 2) (tC (.int 1)))) (tOp (oIx K) (dVar 2) (tC (.int 2)))) (tNil)))))) (gName 3))
    (stop (t__law_is_2 K E))
def t__law_is (K : Frag) (E : XK) : TS :=
    tSeq (dIfS (dNot (dTest K (dGiv (MF K "Answer" [] ["object"]) (tCB (cIsi K) (tCons (dVar 0) (tCons (tC (.ref (He.ga K "Answer"))) (tNil))))))) (tRet (tC (.bl false))) (tNext))
    (stop (t__law_is_1 K E))
end S
-- fn: _law_is
-- law: k46
-- in: Bitmap
-- deps: Answer_ops _law_is_number M46 isi_bm Bitmap_contains
namespace S
open PySem PySem.Spec PyProof.Rows L2
/-- an answer with the rows of three masks -/
def sp__law_is (K : Frag) : Sp := fun vs H Q _ => ∃ (a p : Addr) (n R Y N : Nat), vs = [.ref a, .int n, .ref p] ∧ n ≤ 9 ∧ H p = some (.lst [.int R, .int Y, .int N]) ∧ okM R Y N ∧ (∃ fR fY fN, AnA K H a n S46 fR fY fN ∧ ∀ row : Int, 0 ≤ row → row < n → fR row = bitN R row ∧ fY row = bitN Y row ∧ fN row = bitN N row) ∧ ∀ H', Same H H' → Q (.bl true) H'
theorem pure__law_is {K : Frag} (vs : List V) (H : Hp) (Q : VK) (E : XK) (h : sp__law_is K vs H Q E) : t__law_is K E { nx := fun _ H' => Q .non H', rt := Q } (start ["_law_answer", "_law_size", "_law_masks_here", "_law_due", "_law_found", "_law_k", "_law_row"] vs) H := by
  obtain ⟨a, p, n, R, Y, N, rfl, ln, hp, ok, ⟨fR, fY, fN, hA, hf⟩, q⟩ := h
  obtain ⟨af, kn, okf, dx, r, y, z, ha, hr, hy, hz⟩ := id hA
  obtain ⟨l1, l2, du⟩ := due_in ok
  walk_at "gx"
  refine fun mf => ?_
  refine Isi.df af ha mf ?_
  refine ⟨?_⟩
  walk_at "gx"
  refine ⟨fun d nd => ?_⟩
  have e1 := same_new (o := .lst [.int (R : Int), .int (Y : Int), .int (N : Int), .int ((R : Int) - Y - N)]) nd
  have hd : upd H d (.lst [.int (R : Int), .int (Y : Int), .int (N : Int), .int ((R : Int) - Y - N)]) d = some (.lst [.int (R : Nat), .int (Y : Nat), .int (N : Nat), .int ((R - Y - N : Nat) : Int)]) := by
    rw [upd_same, show (R : Int) - Y - N = ((R - Y - N : Nat) : Int) by omega]
  generalize upd H d (.lst [.int (R : Int), .int (Y : Int), .int (N : Int), .int ((R : Int) - Y - N)]) = H1 at *
  walk_at "gx"
  have ha1 := e1 _ _ ha
  refine Atr.df af ha1 rfl ?_
  refine Atr.df af ha1 rfl ?_
  refine Atr.df af ha1 rfl ?_
  refine IsD.of ha1 ?_
  refine ⟨a, n, S46, fR, fY, fN, rfl, hA.same e1, fun u H2 e2 nu hu => ?_⟩
  have e12 := e1.trans e2
  walk_at "gx"
  refine ⟨fun l nl => ?_⟩
  have e3 := same_new (o := .lst [.ref r, .ref y, .ref z, .ref u]) nl
  have hl : upd H2 l (.lst [.ref r, .ref y, .ref z, .ref u]) l = some (.lst [.ref r, .ref y, .ref z, .ref u]) := upd_same
  generalize upd H2 l (.lst [.ref r, .ref y, .ref z, .ref u]) = H3 at *
  have e13 := e12.trans e3
  have hd3 := e3 _ _ (e2 _ _ hd)
  have bits : ∀ i : Nat, i < 4 → ∃ (x : Addr) (m : Nat) (f : Int → Bool), ([V.ref r, .ref y, .ref z, .ref u])[i]? = some (.ref x) ∧ ([V.int (R : Nat), .int (Y : Nat), .int (N : Nat), .int ((R - Y - N : Nat) : Int)])[i]? = some (.int (m : Nat)) ∧ Bs K H3 x n f S46 ∧ ∀ row : Int, 0 ≤ row → row < n → f row = bitN m row := by
    intro i hi
    rcases i with _ | _ | _ | _ | i
    · exact ⟨r, R, fR, rfl, rfl, hr.same e13, fun row r0 r1 => (hf row r0 r1).1⟩
    · exact ⟨y, Y, fY, rfl, rfl, hy.same e13, fun row r0 r1 => (hf row r0 r1).2.1⟩
    · exact ⟨z, N, fN, rfl, rfl, hz.same e13, fun row r0 r1 => (hf row r0 r1).2.2⟩
    · refine ⟨u, R - Y - N, _, rfl, rfl, hu.same e3, fun row r0 r1 => ?_⟩
      obtain ⟨g1, g2, g3⟩ := hf row r0 r1
      show rLess (rLess (fR row) (fY row)) (fN row) = (R - Y - N).testBit row.toNat
      rw [du, g1, g2, g3]
      show rLess (rLess (R.testBit row.toNat) (Y.testBit row.toNat)) (N.testBit row.toNat) = _
      cases R.testBit row.toNat <;> cases Y.testBit row.toNat <;> cases N.testBit row.toNat <;> rfl
    · omega
  walk_at "gx"
  refine for_rng (n := 4) (fun i σ W => Same H3 W ∧ ∃ x5 x6 : Option V, σ = [some (.ref a), some (.int n), some (.ref p), some (.ref d), some (.ref l), x5, x6]) ⟨Same.refl _, _, _, rfl⟩ ?_ ?_
  · rintro i σ W hi ⟨eW, x5, x6, rfl⟩
    obtain ⟨x, m, f, hx, hm, hb0, hfm⟩ := bits i (by omega)
    have hb := hb0.same eW
    obtain ⟨es, bm, bS, bf⟩ := id hb
    have hlW := eW _ _ hl
    have hdW := eW _ _ hd3
    refine fun mfb => ?_
    walk_at "gx"
    refine S.At.of (v := .ref x) (atI_nat hx) ?_
    refine isi_bm bm ?_
    walk_at "gx"
    refine S.At.of (v := .ref x) (atI_nat hx) ?_
    refine bs_size hb ?_
    refine ⟨n, rfl, ?_⟩
    walk_at "gx"
    refine S.At.of (v := .ref x) (atI_nat hx) ?_
    refine bs_size hb ?_
    walk_at "gx"
    refine ifnf rfl ?_
    refine ⟨?_⟩
    walk_at "gx"
    refine for_rng (n := n) (fun j σ W' => Same H3 W' ∧ ∃ x6 : Option V, σ = [some (.ref a), some (.int n), some (.ref p), some (.ref d), some (.ref l), some (.int i), x6]) ⟨eW, _, rfl⟩ ?_ ?_
    · rintro j σ W' hj ⟨eW', x6, rfl⟩
      have hlW := eW' _ _ hl
      have hb := hb0.same eW'
      obtain ⟨es, bm, bS, bf⟩ := id hb
      walk_at "gx"
      refine S.At.of (v := .ref x) (atI_nat hx) ?_
      obtain ⟨dx6, vs6, hs6⟩ := hb.slt
      refine .of hs6 ?_
      have l6 := asc_len es S46 bm.2.2.1.1 bS
      refine ⟨x, n, es, j, rfl, bm, by have : S46.length = 12 := rfl; omega, fun W2 e2 => ?_⟩
      have e32 := eW'.trans e2
      have hdW2 := e32 _ _ hd3
      walk_at "gx"
      refine S.At.of (v := .int (m : Nat)) (atI_nat hm) ?_
      refine Need.mk (by omega) ?_
      have hin : rowIn n es j = bitN m j := by
        unfold rowIn
        rw [bf j (by omega) (by omega), hfm j (by omega) (by omega), decide_eq_true (by omega), decide_eq_true (by omega)]; rfl
      rw [hin]
      show bIf (!decide (bitN m j = decide (Builtin.bitAnd ((m : Int) / 2 ^ ((j : Nat) : Int).toNat) 1 = 1))) _ _
      rw [bit_and, decide_eq_true rfl]
      exact ⟨e32, _, rfl⟩
    · rintro σ W' ⟨eW', x6, rfl⟩
      exact ⟨eW', _, _, rfl⟩
  · rintro σ W ⟨eW, x5, x6, rfl⟩
    walk_at "gx"
    exact q _ (e13.trans eW)
end S
namespace S
open PySem PySem.Spec PyProof.Rows L2
def t__law_joined_3 (K : Frag) (E : XK) : TS :=
    tRet (dTup K (tCons (dVar 3) (tCons (dVar 4) (tNil))))
def t__law_joined_2 (K : Frag) (E : XK) : TS :=
    tSeq (dGivS (ExF K "BadAnswer" ["SliceError"]) (dTryO K "BadAnswer" (fun W1 => dIfS (dTest K (dVar 2)) (tAsg (dBinD K "Answer" (sp_Answerdd_anddd K) (WE W1) (dVar 0) (dVar 1)) (gName 4)) (tAsg (dBinD K "Answer" (sp_Answerdd_ordd K) (WE W1) (dVar 0) (dVar 1)) (gName 4))) (fun a1 cls1 d1 => tAsg (tC (.str "bad")) (gName 3)) (WD E)))
    (stop (t__law_joined_3 K E))
def t__law_joined_1 (K : Frag) (E : XK) : TS :=
    tSeq (tAsg (tC .non) (gName 4))
    (stop (t__law_joined_2 K E))
def t__law_joined (K : Frag) (E : XK) : TS :=
    tSeq (tAsg (tC (.str "got")) (gName 3))
    (stop (t__law_joined_1 K E))
end S
-- fn: _law_joined
-- law: k46
-- ownD: BitAnd=Answer BitOr=Answer
-- deps: Answer_ops
namespace S
open PySem PySem.Spec PyProof.Rows L2
def joinY (b : Bool) (f g : Int → Bool) : Int → Bool := fun r => if b then rAnd (f r) (g r) else rOr (f r) (g r)
def sp__law_joined (K : Frag) : Sp := fun vs H Q _ => ∃ (a b : Addr) (w : Bool) (n m : Int) (S S' : List Int) (fR fY fN gR gY gN : Int → Bool), vs = [.ref a, .ref b, .bl w] ∧ AnA K H a n S fR fY fN ∧ AnA K H b m S' gR gY gN ∧
  (sameR n m fR gR → S' = S ∧ ∀ t x H', Same H H' → SqT K H' t [.str "got", .ref x] → AnA K H' x n S fR (joinY w fY gY) (joinY (!w) fN gN) → Q (.ref t) H') ∧ (¬ sameR n m fR gR → ∀ t H', Same H H' → SqT K H' t [.str "bad", .non] → Q (.ref t) H')
theorem AnA.ind {K : Frag} {H : Hp} {a : Addr} {n : Int} {S : List Int} {fR fY fN : Int → Bool} {p : Prop} (h : AnA K H a n S fR fY fN) (q : p) : InD K H "Answer" a p := by
  obtain ⟨_, _, _, dx, r, y, z, h1, _⟩ := h
  exact .of h1 q
theorem pure__law_joined {K : Frag} (vs : List V) (H : Hp) (Q : VK) (E : XK) (h : sp__law_joined K vs H Q E) : t__law_joined K E { nx := fun _ H' => Q .non H', rt := Q } (start ["_law_one", "_law_other", "_law_both_here", "_law_kind", "_law_answer"] vs) H := by
  obtain ⟨a, b, w, n, m, S, S', fR, fY, fN, gR, gY, gN, rfl, ha, hb, q1, q2⟩ := h
  obtain ⟨_, _, _, dx, r1, y1, z1, h1, _⟩ := id ha
  obtain ⟨_, _, _, dy, r2, y2, z2, h2, _⟩ := id hb
  walk_at "gx"
  refine fun sf => ?_
  cases w with
  | true =>
    refine ⟨⟨_, _, h1⟩, ⟨⟨_, _, h2⟩, ?_⟩⟩
    refine ⟨a, b, n, m, S, S', fR, fY, fN, gR, gY, gN, rfl, ha, hb, fun s => ⟨(q1 s).1, fun x H1 e1 nx hx => ?_⟩, fun s xf => ?_⟩
    · walk_at "gx"
      refine ⟨fun t H2 e2 ht => ?_⟩
      exact (q1 s).2 t x H2 (e1.trans e2) ht (hx.same e2)
    · refine hdo_yes (by rw [mf_exm xf.mf sf.mf (by decide)] <;> first | rfl | decide) fun ea hea => ?_
      walk_at "gx"
      refine ⟨fun t H2 e2 ht => ?_⟩
      exact q2 s t H2 e2 ht
  | false =>
    refine ⟨⟨_, _, h1⟩, ⟨⟨_, _, h2⟩, ?_⟩⟩
    refine ⟨a, b, n, m, S, S', fR, fY, fN, gR, gY, gN, rfl, ha, hb, fun s => ⟨(q1 s).1, fun x H1 e1 nx hx => ?_⟩, fun s xf => ?_⟩
    · walk_at "gx"
      refine ⟨fun t H2 e2 ht => ?_⟩
      exact (q1 s).2 t x H2 (e1.trans e2) ht (hx.same e2)
    · refine hdo_yes (by rw [mf_exm xf.mf sf.mf (by decide)] <;> first | rfl | decide) fun ea hea => ?_
      walk_at "gx"
      refine ⟨fun t H2 e2 ht => ?_⟩
      exact q2 s t H2 e2 ht
end S
namespace S
open PySem PySem.Spec PyProof.Rows L2
def t__law_alone_6 (K : Frag) (E : XK) : TS :=
    tRet (dAndV (tOp (oEqD2 K "Answer" (sp_Answerdd_eqdd K) E) (tOp (oIx K) (dCall (sp__law_joined K) (EW E) (tCons (dVar 4) (tCons (dVar 0) (tCons (tC (.bl false)) (tNil))))) (tC (.int 0))) (tC (.str "bad"))) (dCall (sp__law_is K) (EW E) (tCons (dVar 0) (tCons (dVar 1) (tCons (dVar 2) (tNil))))))
def t__law_alone_5 (K : Frag) (E : XK) : TS :=
    tSeq (dIfS (dOr (dCmpT oNotT (tOp (oEqD2 K "Answer" (sp_Answerdd_eqdd K) E) (dVar 0) (dVar 4)) (tC (.bl false))) (dCmpT (oNe K) (tOp (oIx K) (dCall (sp__law_joined K) (EW E) (tCons (dVar 0) (tCons (dVar 4) (tCons (tC (.bl true)) (tNil))))) (tC (.int 0))) (tC (.str "bad")))) (tRet (tC (.bl false))) (tNext))
    (stop (t__law_alone_6 K E))
def t__law_alone_4 (K : Frag) (E : XK) : TS :=
    tSeq (tAsg (dGiv (DF K "Answer" [] ["rows", "yes", "no"]) (dMake K "Answer" (sp_Answerdd_initdd K) (EW E) (tCons (dVar 3) (tCons (dVar 3) (tCons (dVar 3) (tNil)))))) (gName 4))
    (stop (t__law_alone_5 K E))
def t__law_alone_3 (K : Frag) (E : XK) : TS :=
    tSeq (tAsg (dGiv (CF K "Bitmap" ["ends", "size"]) (dMake K "Bitmap" (sp_Bitmapdd_initdd K) (EW E) (tCons (tOp (oAdd K) (dVar 1) (tC (.int 1))) (tCons (dLst (tNil)) (tNil))))) (gName 3))
    (stop (t__law_alone_4 K E))
def t__law_alone_2 (K : Frag) (E : XK) : TS :=
    tSeq (dIfS (dOr (dCmpT oNotT (tOp (oEqD2 K "Answer" (sp_Answerdd_eqdd K) E) (dVar 0) (tC (.int 3))) (tC (.bl false))) (dOr (dCmpT oNotT (tOp (oEqD2 K "Answer" (sp_Answerdd_eqdd K) E) (dVar 0) (dAt K "rows" (dVar 0))) (tC (.bl false))) (dCmpT oNotT (tOp (oEqD2 K "Answer" (sp_Answerdd_eqdd K) E) (dVar 0) (dVar 0)) (tC (.bl true))))) (tRet (tC (.bl false))) (tNext))
    (stop (t__law_alone_3 K E))
def t__law_alone_1 (K : Frag) (E : XK) : TS :=
    tSeq (dIfS (dNot (dTest K (dCall (sp__law_is K) (EW E) (tCons (dMethD K "Answer" "surely" (sp_Answer_surely K) (EW E) (dVar 0) tNil) (tCons (dVar 1) (tCons (dLst (tCons (tOp (oIx K) (dVar 2) (tC (.int 0))) (tCons (tOp (oIx K) (dVar 2) (tC (.int 1))) (tCons (tOp oSub (tOp (oIx K) (dVar 2) (tC (.int 0))) (tOp (oIx K) (dVar 2) (tC (.int 1)))) (tNil))))) (tNil))))))) (tRet (tC (.bl false))) (tNext))
    (stop (t__law_alone_2 K E))
def t__law_alone (K : Frag) (E : XK) : TS :=
    tSeq (dIfS (dOr (dNot (dTest K (dCall (sp__law_is K) (EW E) (tCons (dVar 0) (tCons (dVar 1) (tCons (dVar 2) (tNil))))))) (dNot (dTest K (dCall (sp__law_is K) (EW E) (tCons (tUn (uOwnD K "Answer" (sp_Answerdd_invertdd K) E) (dVar 0)) (tCons (dVar 1) (tCons (dLst (tCons (tOp (oIx K) (dVar 2) (tC (.int 0))) (tCons (tOp (oIx K) (dVar 2) (tC (.int 2))) (tCons (tOp (oIx K) (dVar 2) (tC (.int 1))) (tNil))))) (tNil)))))))) (tRet (tC (.bl false))) (tNext))
    (stop (t__law_alone_1 K E))
end S
-- fn: _law_alone
-- law: k46
-- ownD: EqA=Answer Invert=Answer
-- deps: _law_is_k46 _law_joined_k46 Bitmap_init
namespace S
open PySem PySem.Spec PyProof.Rows L2
/-- an answer over the rows of three masks -/
def MA (K : Frag) (H : Hp) (a : Addr) (n R Y N : Nat) : Prop := okM R Y N ∧ ∃ fR fY fN, AnA K H a n S46 fR fY fN ∧ ∀ row : Int, 0 ≤ row → row < n → fR row = bitN R row ∧ fY row = bitN Y row ∧ fN row = bitN N row
theorem MA.same {K : Frag} {H H' : Hp} {a : Addr} {n R Y N : Nat} (h : MA K H a n R Y N) (e : Same H H') : MA K H' a n R Y N := ⟨h.1, let ⟨fR, fY, fN, h1, h2⟩ := h.2; ⟨fR, fY, fN, h1.same e, h2⟩⟩
theorem MA.x {K : Frag} {H H' : Hp} {a st : Addr} {n R Y N : Nat} {l : List V} (h : MA K H a n R Y N) (e : SameX st H H') (hst : H st = some (.lst l)) : MA K H' a n R Y N := ⟨h.1, let ⟨fR, fY, fN, h1, h2⟩ := h.2; ⟨fR, fY, fN, h1.x e hst, h2⟩⟩
theorem isi_int_noA {K : Frag} {H : Hp} {i : Int} : NoAn K H (.int i) := fun k mf q => Isi.of (.base (.int i)) (mf_tyk mf (by decide)) q
def sp__law_alone (K : Frag) : Sp := fun vs H Q _ => ∃ (a p : Addr) (n R Y N : Nat), vs = [.ref a, .int n, .ref p] ∧ n ≤ 9 ∧ H p = some (.lst [.int R, .int Y, .int N]) ∧ MA K H a n R Y N ∧ ∀ H', Same H H' → Q (.bl true) H'
theorem pure__law_alone {K : Frag} (vs : List V) (H : Hp) (Q : VK) (E : XK) (h : sp__law_alone K vs H Q E) : t__law_alone K E { nx := fun _ H' => Q .non H', rt := Q } (start ["_law_one", "_law_size", "_law_masks_here", "_law_nothing", "_law_third"] vs) H := by
  obtain ⟨a, p, n, R, Y, N, rfl, ln, hp, hM, q⟩ := h
  walk_at "gx"
  refine ⟨a, p, n, R, Y, N, rfl, ln, hp, hM.1, hM.2, fun H1 e1 => ?_⟩
  have hM1 := hM.same e1
  have hp1 := e1 _ _ hp
  obtain ⟨ok, fR, fY, fN, hA, hf⟩ := id hM1
  obtain ⟨af, kn, okf, dx, r, y, z, ha, hr, hy, hz⟩ := id hA
  walk_at "gx"
  refine .of ha ?_
  refine ⟨a, n, S46, fR, fY, fN, rfl, hA, fun a2 H2 e2 n2 hA2 => ?_⟩
  have hp2 := e2 _ _ hp1
  walk_at "gx"
  refine ⟨fun l nl => ?_⟩
  have e3 := same_new (o := .lst [.int (R : Int), .int (N : Int), .int (Y : Int)]) nl
  have hl : upd H2 l (.lst [.int (R : Int), .int (N : Int), .int (Y : Int)]) l = some (.lst [.int (R : Int), .int (N : Int), .int (Y : Int)]) := upd_same
  generalize upd H2 l (.lst [.int (R : Int), .int (N : Int), .int (Y : Int)]) = H3 at *
  have okI : okM R N Y := ⟨by rw [Nat.and_comm]; exact ok.1, ok.2.2, ok.2.1⟩
  refine ⟨a2, l, n, R, N, Y, rfl, ln, hl, okI, ⟨fR, fN, fY, hA2.same e3, fun row r0 r1 => ⟨(hf row r0 r1).1, (hf row r0 r1).2.2, (hf row r0 r1).2.1⟩⟩, fun H4 e4 => ?_⟩
  have e14 := (e2.trans e3).trans e4
  walk_at "gx"
  have ha4 := e14 _ _ ha
  refine IsD.of ha4 ?_
  refine ⟨a, n, S46, fR, fY, fN, rfl, hA.same e14, fun a3 H5 e5 n5 hA3 => ?_⟩
  have hp5 := e5 _ _ (e14 _ _ hp1)
  obtain ⟨lYR, sYR, bYR⟩ := sub_in ok.2.1
  walk_at "gx"
  refine ⟨fun m nm => ?_⟩
  have e6 := same_new (o := .lst [.int (R : Int), .int (Y : Int), .int ((R : Int) - (Y : Int))]) nm
  have hm : upd H5 m (.lst [.int (R : Int), .int (Y : Int), .int ((R : Int) - (Y : Int))]) m = some (.lst [.int (R : Nat), .int (Y : Nat), .int ((R - Y : Nat) : Int)]) := by rw [upd_same, sYR]
  generalize upd H5 m (.lst [.int (R : Int), .int (Y : Int), .int ((R : Int) - (Y : Int))]) = H6 at *
  have okS : okM R Y (R - Y) := ⟨apart.mpr fun i => by rw [bYR]; cases Y.testBit i <;> simp, ok.2.1, in_and fun i hi => by rw [bYR] at hi; exact (Bool.and_eq_true_iff.mp hi).1⟩
  refine ⟨a3, m, n, R, Y, R - Y, rfl, ln, hm, okS, ⟨fR, fY, _, hA3.same e6, fun row r0 r1 => ⟨(hf row r0 r1).1, (hf row r0 r1).2.1, ?_⟩⟩, fun H7 e7 => ?_⟩
  · show rLess (fR row) (fY row) = (R - Y).testBit row.toNat
    rw [bYR, (hf row r0 r1).1, (hf row r0 r1).2.1]; rfl
  have e17 := e14.trans ((e5.trans e6).trans e7)
  have ha7 := e17 _ _ ha
  have hA7 := hA.same e17
  have hr7 := hr.same e17
  obtain ⟨es, bm, bS, bf⟩ := id hr7
  obtain ⟨cb, _, _, db, pb, slb, _⟩ := id bm
  walk_at "gx"
  refine EqD2.of (.dat (.int 3)) nf_int ha7 ⟨a, .int 3, n, S46, fR, fY, fN, rfl, hA7, .inl ⟨isi_int_noA, ?_⟩⟩
  refine IsT.bl ?_
  walk_at "gx"
  refine Atr.df af ha7 rfl ?_
  refine EqD2.of (.ins slb) (nf_cls cb.mf af.mf (by decide)) ha7 ⟨a, .ref r, n, S46, fR, fY, fN, rfl, hA7, .inl ⟨fun k mf hk => ⟨.inr ⟨r, _, db, _, false, rfl, slb, cb.sc, cb.si, by rw [mf_kit cb.mf mf]; rfl, hk⟩⟩, ?_⟩⟩
  refine IsT.bl ?_
  walk_at "gx"
  have self : ∀ f : Int → Bool, sameR (n : Int) n f f := fun f => ⟨rfl, fun _ _ _ => rfl⟩
  refine EqD2.of (.dic ha7) nf_self ha7 ⟨a, .ref a, n, S46, fR, fY, fN, rfl, hA7, .inr ⟨a, n, S46, fR, fY, fN, rfl, hA7, fun _ => ?_, fun g => absurd ⟨self _, self _, self _⟩ g⟩⟩
  refine IsT.bl ?_
  walk_at "gx"
  refine fun cf => ?_
  refine Need.mk (by rw [sizeLine_eq]; show 0 ≤ 16777216; decide) ⟨fun t nt => ?_⟩
  have e8 := same_new (o := .lst ([] : List V)) nt
  have ht : upd H7 t (.lst ([] : List V)) t = some (.lst (([] : List Int).map V.int)) := upd_same
  generalize upd H7 t (.lst ([] : List V)) = H8 at *
  refine mk_bitmap (n := (n : Int) + 1) (es := []) cf (.inl (SqL.of ht)) (fun _ _ x H9 e9 nx hx => ?_) (fun nb => absurd ⟨by omega, .nil, fun _ z => nomatch z⟩ nb)
  have bx : Bs K H9 x ((n : Int) + 1) (fun _ => false) S46 := ⟨[], hx, fun _ z => (nomatch z), fun _ _ _ => rfl⟩
  walk_at "gx"
  refine fun _ => ?_
  have ok0 : okA ((n : Int) + 1) (fun _ => false) (fun _ => false) (fun _ => false) := fun row _ _ => by simp
  refine mk_answer af kn46 bx bx bx (fun _ _ _ u H10 e10 nu hu => ?_) (fun _ _ nb => absurd ok0 nb) (fun nb => absurd ⟨rfl, rfl⟩ nb)
  have e7t := (e8.trans e9).trans e10
  have ha10 := e7t _ _ ha7
  have hA10 := hA7.same e7t
  obtain ⟨_, _, _, du, r2, y2, z2, hu', _⟩ := id hu
  have dif : ¬ sameR (n : Int) ((n : Int) + 1) fR (fun _ => false) := fun s => by have := s.1; omega
  have dif2 : ¬ sameR ((n : Int) + 1) (n : Int) (fun _ => false) fR := fun s => by have := s.1; omega
  walk_at "gx"
  refine EqD2.of (.dic hu') nf_self ha10 ⟨a, .ref u, n, S46, fR, fY, fN, rfl, hA10, .inr ⟨u, (n : Int) + 1, S46, _, _, _, rfl, hu, fun g => absurd g.1 dif, fun _ => ?_⟩⟩
  refine IsT.bl ?_
  walk_at "gx"
  refine ⟨a, u, true, n, (n : Int) + 1, S46, S46, fR, fY, fN, _, _, _, rfl, hA10, hu, fun s => absurd s dif, fun _ t2 H11 e11 ht2 => ?_⟩
  walk_at "gx"
  refine ⟨u, a, false, (n : Int) + 1, n, S46, S46, _, _, _, fR, fY, fN, rfl, hu.same e11, hA10.same e11, fun s => absurd s dif2, fun _ t3 H12 e12 ht3 => ?_⟩
  have e112 := ((e1.trans e17).trans e7t).trans (e11.trans e12)
  walk_at "gx"
  refine ⟨a, p, n, R, Y, N, rfl, ln, e112 _ _ hp, ok, (hM.same e112).2, fun H13 e13 => ?_⟩
  exact q _ (e112.trans e13)
end S
namespace S
open PySem PySem.Spec PyProof.Rows L2
def t__law_both_7 (K : Frag) (E : XK) : TS :=
    tRet (dAndV (dCall (sp__law_is K) (EW E) (tCons (tOp (oIx K) (tOp (oIx K) (dVar 8) (tC (.int 0))) (tC (.int 1))) (tCons (dVar 2) (tCons (dVar 5) (tNil))))) (dCall (sp__law_is K) (EW E) (tCons (tOp (oIx K) (tOp (oIx K) (dVar 8) (tC (.int 1))) (tC (.int 1))) (tCons (dVar 2) (tCons (dVar 6) (tNil))))))
def t__law_both_6 (K : Frag) (E : XK) : TS :=
    tSeq (dIfS (dOr (dCmpT (oNe K) (tOp (oIx K) (tOp (oIx K) (dVar 8) (tC (.int 0))) (tC (.int 0))) (tC (.str "got"))) (dCmpT (oNe K) (tOp (oIx K) (tOp (oIx K) (dVar 8) (tC (.int 1))) (tC (.int 0))) (tC (.str "got")))) (tRet (tC (.bl false))) (tNext))
    (stop (t__law_both_7 K E))
def t__law_both_5 (K : Frag) (E : XK) : TS :=
    tSeq (dIfS (dCmpT (oNe K) (tOp (oIx K) (dVar 3) (tC (.int 0))) (tOp (oIx K) (dVar 4) (tC (.int 0)))) (tRet (dAndV (tOp (oEqD2 K "Answer" (sp_Answerdd_eqdd K) E) (tOp (oIx K) (tOp (oIx K) (dVar 8) (tC (.int 0))) (tC (.int 0))) (tC (.str "bad"))) (tOp (oEqD2 K "Answer" (sp_Answerdd_eqdd K) E) (tOp (oIx K) (tOp (oIx K) (dVar 8) (tC (.int 1))) (tC (.int 0))) (tC (.str "bad"))))) (tNext))
    (stop (t__law_both_6 K E))
def t__law_both_4 (K : Frag) (E : XK) : TS :=
    tSeq (tAsg (dLst (tCons (dCall (sp__law_joined K) (EW E) (tCons (dVar 0) (tCons (dVar 1) (tCons (tC (.bl true)) (tNil))))) (tCons (dCall (sp__law_joined K) (EW E) (tCons (dVar 0) (tCons (dVar 1) (tCons (tC (.bl false)) (tNil))))) (tNil)))) (gName 8))
    (stop (t__law_both_5 K E))
def t__law_both_3 (K : Frag) (E : XK) : TS :=
    tSeq (dIfS (dOr (dNot (dTest K (tCB (cIsi K) (tCons (dVar 7) (tCons (tC (.ty "bool")) (tNil)))))) (dCmpT (oNe K) (dVar 7) (tOp (oEqD2 K "Answer" (sp_Answerdd_eqdd K) E) (dVar 3) (dVar 4)))) (tRet (tC (.bl false))) (tNext))
    (stop (t__law_both_4 K E))
def t__law_both_2 (K : Frag) (E : XK) : TS :=
    tSeq (tAsg (tOp (oEqD2 K "Answer" (sp_Answerdd_eqdd K) E) (dVar 0) (dVar 1)) (gName 7))
    (stop (t__law_both_3 K E))
def t__law_both_1 (K : Frag) (E : XK) : TS :=
    tSeq (tAsg (dLst (tCons (tOp (oIx K) (dVar 3) (tC (.int 0))) (tCons (tOp oOr (tOp (oIx K) (dVar 3) (tC (.int 1))) (tOp (oIx K) (dVar 4) (tC (.int 1)))) (tCons (tOp oAnd (tOp (oIx K) (dVar 3) (tC (.int 2))) (tOp (oIx K) (dVar 4) (tC (.int 2)))) (tNil))))) (gName 6))
    (stop (t__law_both_2 K E))
def t__law_both (K : Frag) (E : XK) : TS :=
    tSeq (tAsg (dLst (tCons (tOp (oIx K) (dVar 3) (tC (.int 0))) (tCons (tOp oAnd (tOp (oIx K) (dVar 3) (tC (.int 1))) (tOp (oIx K) (dVar 4) (tC (.int 1)))) (tCons (tOp oOr (tOp (oIx K) (dVar 3) (tC (.int 2))) (tOp (oIx K) (dVar 4) (tC (.int 2)))) (tNil))))) (gName 5))
    (stop (t__law_both_1 K E))
end S
-- fn: _law_both
-- law: k46
-- ownD: EqA=Answer
-- deps: _law_alone
namespace S
open PySem PySem.Spec PyProof.Rows L2
def sp__law_both (K : Frag) : Sp := fun vs H Q _ => ∃ (a b p r : Addr) (n R Y N R2 Y2 N2 : Nat), vs = [.ref a, .ref b, .int n, .ref p, .ref r] ∧ n ≤ 9 ∧ H p = some (.lst [.int R, .int Y, .int N]) ∧ H r = some (.lst [.int R2, .int Y2, .int N2]) ∧ MA K H a n R Y N ∧ MA K H b n R2 Y2 N2 ∧ (R < 2 ^ n ∧ Y < 2 ^ n ∧ N < 2 ^ n) ∧ (R2 < 2 ^ n ∧ Y2 < 2 ^ n ∧ N2 < 2 ^ n) ∧ ∀ H', Same H H' → Q (.bl true) H'
theorem same_bits {n a b : Nat} {f g : Int → Bool} (ha : a < 2 ^ n) (hb : b < 2 ^ n) (hf : ∀ row : Int, 0 ≤ row → row < n → f row = bitN a row) (hg : ∀ row : Int, 0 ≤ row → row < n → g row = bitN b row) : sameR (n : Int) n f g ↔ a = b := by
  rw [← sameM ha hb]
  exact ⟨fun h => ⟨rfl, fun row r0 r1 => by rw [← hf row r0 r1, ← hg row r0 r1]; exact h.2 row r0 r1⟩, fun h => ⟨rfl, fun row r0 r1 => by rw [hf row r0 r1, hg row r0 r1]; exact h.2 row r0 r1⟩⟩
theorem okM_meet {R Y N Y2 N2 : Nat} (h : okM R Y N) (h2 : okM R Y2 N2) : okM R (Y &&& Y2) (N ||| N2) := ⟨apart.mpr fun i => by
    rw [Nat.testBit_and, Nat.testBit_or]
    have := apart.mp h.1 i
    have := apart.mp h2.1 i
    revert this
    revert this
    cases Y.testBit i <;> cases N.testBit i <;> cases Y2.testBit i <;> cases N2.testBit i <;> decide, in_and fun i hi => by
    rw [Nat.testBit_and] at hi
    exact and_in h.2.1 i (Bool.and_eq_true_iff.mp hi).1, in_and fun i hi => by
    rw [Nat.testBit_or] at hi
    rcases Bool.or_eq_true_iff.mp hi with hi | hi
    · exact and_in h.2.2 i hi
    · exact and_in h2.2.2 i hi⟩
theorem okM_comm {R Y N : Nat} (h : okM R Y N) : okM R N Y := ⟨by rw [Nat.and_comm]; exact h.1, h.2.2, h.2.1⟩
theorem pure__law_both {K : Frag} (vs : List V) (H : Hp) (Q : VK) (E : XK) (h : sp__law_both K vs H Q E) : t__law_both K E { nx := fun _ H' => Q .non H', rt := Q } (start ["_law_one", "_law_other", "_law_size", "_law_masks_here", "_law_more", "_law_meet", "_law_join", "_law_alike", "_law_found"] vs) H := by
  obtain ⟨a, b, p, r, n, R, Y, N, R2, Y2, N2, rfl, ln, hp, hr, hM, hM2, ⟨lR, lY, lN⟩, ⟨lR2, lY2, lN2⟩, q⟩ := h
  obtain ⟨ok, fR, fY, fN, hA, hf⟩ := id hM
  obtain ⟨ok2, gR, gY, gN, hB, hg⟩ := id hM2
  have sR := same_bits lR lR2 (fun row r0 r1 => (hf row r0 r1).1) fun row r0 r1 => (hg row r0 r1).1
  have sY := same_bits lY lY2 (fun row r0 r1 => (hf row r0 r1).2.1) fun row r0 r1 => (hg row r0 r1).2.1
  have sN := same_bits lN lN2 (fun row r0 r1 => (hf row r0 r1).2.2) fun row r0 r1 => (hg row r0 r1).2.2
  walk_at "gx"
  refine ⟨fun m nm => ?_⟩
  have e1 := same_new (o := .lst [.int (R : Int), .int (Builtin.bitAnd (Y : Int) (Y2 : Int)), .int (Builtin.bitOr (N : Int) (N2 : Int))]) nm
  have hm : upd H m (.lst [.int (R : Int), .int (Builtin.bitAnd (Y : Int) (Y2 : Int)), .int (Builtin.bitOr (N : Int) (N2 : Int))]) m = some (.lst [.int (R : Nat), .int ((Y &&& Y2 : Nat) : Int), .int ((N ||| N2 : Nat) : Int)]) := by rw [upd_same, PySem.W.os_band, ors]
  show stop _ _ _ (upd H m (.lst [.int (R : Int), .int (Builtin.bitAnd (Y : Int) (Y2 : Int)), .int (Builtin.bitOr (N : Int) (N2 : Int))]))
  generalize upd H m (.lst [.int (R : Int), .int (Builtin.bitAnd (Y : Int) (Y2 : Int)), .int (Builtin.bitOr (N : Int) (N2 : Int))]) = H1 at *
  have hp1 := e1 _ _ hp
  have hr1 := e1 _ _ hr
  walk_at "gx"
  refine ⟨fun j nj => ?_⟩
  have e2 := same_new (o := .lst [.int (R : Int), .int (Builtin.bitOr (Y : Int) (Y2 : Int)), .int (Builtin.bitAnd (N : Int) (N2 : Int))]) nj
  have hj : upd H1 j (.lst [.int (R : Int), .int (Builtin.bitOr (Y : Int) (Y2 : Int)), .int (Builtin.bitAnd (N : Int) (N2 : Int))]) j = some (.lst [.int (R : Nat), .int ((Y ||| Y2 : Nat) : Int), .int ((N &&& N2 : Nat) : Int)]) := by rw [upd_same, PySem.W.os_band, ors]
  show stop _ _ _ (upd H1 j (.lst [.int (R : Int), .int (Builtin.bitOr (Y : Int) (Y2 : Int)), .int (Builtin.bitAnd (N : Int) (N2 : Int))]))
  generalize upd H1 j (.lst [.int (R : Int), .int (Builtin.bitOr (Y : Int) (Y2 : Int)), .int (Builtin.bitAnd (N : Int) (N2 : Int))]) = H2 at *
  have e12 := e1.trans e2
  have hA2 := hA.same e12
  have hB2 := hB.same e12
  obtain ⟨af, _, _, dx, r1, y1, z1, ha, _⟩ := id hA2
  obtain ⟨_, _, _, dy, r2, y2, z2, hb, _⟩ := id hB2
  have hp2 := e2 _ _ hp1
  have hr2 := e2 _ _ hr1
  have rest : ∀ al : Bool, al = decide (R = R2 ∧ Y = Y2 ∧ N = N2) → (stop (t__law_both_3 K E)) { nx := fun _ H' => Q .non H', rt := Q } [some (.ref a), some (.ref b), some (.int n), some (.ref p), some (.ref r), some (.ref m), some (.ref j), some (.bl al), none] H2 := by
    intro al hal
    walk_at "gx"
    refine Isi.of (.base (.bl al)) rfl ?_
    walk_at "gx"
    refine EqD2.dat ?_
    refine eqd_ll (xs := [(R : Int), Y, N]) (ys := [(R2 : Int), Y2, N2]) (.inl (.inl hp2)) (.inl (.inl hr2)) ?_
    have ed : decide ([(R : Int), Y, N] = [(R2 : Int), Y2, N2]) = al := by
      rw [hal]
      by_cases g : R = R2 ∧ Y = Y2 ∧ N = N2
      · obtain ⟨rfl, rfl, rfl⟩ := g
        rw [decide_eq_true rfl, decide_eq_true ⟨rfl, rfl, rfl⟩]
      · rw [decide_eq_false g, decide_eq_false]
        intro h
        simp only [List.cons.injEq] at h
        exact g ⟨by omega, by omega, by omega⟩
    rw [ed]
    refine ifnf rfl ?_
    refine ⟨?_⟩
    walk_at "gx"
    by_cases hR : R = R2
    · subst hR
      refine ⟨a, b, true, n, n, S46, S46, fR, fY, fN, gR, gY, gN, rfl, hA2, hB2, fun s => ⟨rfl, fun t1 x1 H3 e3 ht1 hx1 => ?_⟩, fun s => absurd (sR.mpr rfl) s⟩
      walk_at "gx"
      refine ⟨a, b, false, n, n, S46, S46, fR, fY, fN, gR, gY, gN, rfl, hA2.same e3, hB2.same e3, fun s => ⟨rfl, fun t2 x2 H4 e4 ht2 hx2 => ?_⟩, fun s => absurd (sR.mpr rfl) s⟩
      walk_at "gx"
      refine ⟨fun f nf => ?_⟩
      have e5 := same_new (o := .lst [.ref t1, .ref t2]) nf
      have hf5 : upd H4 f (.lst [.ref t1, .ref t2]) f = some (.lst [.ref t1, .ref t2]) := upd_same
      generalize upd H4 f (.lst [.ref t1, .ref t2]) = H5 at *
      have e25 := (e3.trans e4).trans e5
      have ht1 := Same.tup (e4.trans e5) ht1
      have ht2 := Same.tup e5 ht2
      have hp5 := e25 _ _ hp2
      have hr5 := e25 _ _ hr2
      have hm5 := e25 _ _ (e2 _ _ hm)
      have hj5 := e25 _ _ hj
      walk_at "gx"
      refine ifnf rfl ?_
      refine ⟨?_⟩
      walk_at "gx"
      refine ⟨x1, m, n, R, Y &&& Y2, N ||| N2, rfl, ln, hm5, okM_meet ok ok2, ⟨_, _, _, hx1.same (e4.trans e5), fun row r0 r1 => ⟨(hf row r0 r1).1, ?_, ?_⟩⟩, fun H6 e6 => ?_⟩
      · show rAnd (fY row) (gY row) = (Y &&& Y2).testBit row.toNat
        rw [Nat.testBit_and, (hf row r0 r1).2.1, (hg row r0 r1).2.1]; rfl
      · show rOr (fN row) (gN row) = (N ||| N2).testBit row.toNat
        rw [Nat.testBit_or, (hf row r0 r1).2.2, (hg row r0 r1).2.2]; rfl
      have hf6 := e6 _ _ hf5
      have ht2 := Same.tup e6 ht2
      walk_at "gx"
      refine ⟨x2, j, n, R, Y ||| Y2, N &&& N2, rfl, ln, e6 _ _ hj5, okM_comm (okM_meet (okM_comm ok) (okM_comm ok2)), ⟨_, _, _, hx2.same (e5.trans e6), fun row r0 r1 => ⟨(hf row r0 r1).1, ?_, ?_⟩⟩, fun H7 e7 => ?_⟩
      · show rOr (fY row) (gY row) = (Y ||| Y2).testBit row.toNat
        rw [Nat.testBit_or, (hf row r0 r1).2.1, (hg row r0 r1).2.1]; rfl
      · show rAnd (fN row) (gN row) = (N &&& N2).testBit row.toNat
        rw [Nat.testBit_and, (hf row r0 r1).2.2, (hg row r0 r1).2.2]; rfl
      exact q _ (e12.trans ((e25.trans e6).trans e7))
    · refine ⟨a, b, true, n, n, S46, S46, fR, fY, fN, gR, gY, gN, rfl, hA2, hB2, fun s => absurd (sR.mp s) hR, fun s t1 H3 e3 ht1 => ?_⟩
      walk_at "gx"
      refine ⟨a, b, false, n, n, S46, S46, fR, fY, fN, gR, gY, gN, rfl, hA2.same e3, hB2.same e3, fun s => absurd (sR.mp s) hR, fun s t2 H4 e4 ht2 => ?_⟩
      walk_at "gx"
      refine ⟨fun f nf => ?_⟩
      have e5 := same_new (o := .lst [.ref t1, .ref t2]) nf
      have hf5 : upd H4 f (.lst [.ref t1, .ref t2]) f = some (.lst [.ref t1, .ref t2]) := upd_same
      generalize upd H4 f (.lst [.ref t1, .ref t2]) = H5 at *
      have e25 := (e3.trans e4).trans e5
      have ht1 := Same.tup (e4.trans e5) ht1
      have ht2 := Same.tup e5 ht2
      have hp5 := e25 _ _ hp2
      have hr5 := e25 _ _ hr2
      walk_at "gx"
      refine ifnt (fun h => hR (by have h : (R : Int) = (R2 : Int) := h; omega)) ?_
      walk_at "gx"
      exact q _ (e12.trans e25)
  walk_at "gx"
  refine EqD2.of (.dic hb) nf_self ha ⟨a, .ref b, n, S46, fR, fY, fN, rfl, hA2, .inr ⟨b, n, S46, gR, gY, gN, rfl, hB2, fun g => ?_, fun g => ?_⟩⟩
  · exact rest true (by rw [decide_eq_true ⟨sR.mp g.1, sY.mp g.2.1, sN.mp g.2.2⟩])
  · exact rest false (by rw [decide_eq_false fun z => g ⟨sR.mpr z.1, sY.mpr z.2.1, sN.mpr z.2.2⟩])
end S
-- deps: D0 D1
/-! ## comprehensions with a filter over a range -/
namespace S
open PySem PySem.Spec PyProof.Rows L2
theorem lc_rngF {m i : Nat} {tt : TT} {te : TE} {vs : List Nat} {σ : L2.St} {H1 : Hp} {Q : VK} (pz : Nat → Bool) (f : Nat → Int) (hz : m < sizeLine)
    (hs : ∀ (j : Nat) (H : Hp) (A : V → Hp → Prop) (B : Hp → Prop), j < m → Same H1 H → (pz j = true → A (.int (f j)) H) → (pz j = false → B H) → wipe ((wipe σ vs).set i (some (.int j))) vs = wipe σ vs ∧ tt ((wipe σ vs).set i (some (.int j))) H fun b H3 => if b = true then te ((wipe σ vs).set i (some (.int j))) H3 A else B H3)
    (hd : ∀ D H', H1 D = none → H' D = some (.lst ((((List.range m).filter pz).map f).map V.int)) → Same H1 H' → Q (.ref D) H') :
    Wr (LcGo (gName i) tt te vs σ Q) (Itr 0 m) H1 := by
  refine ⟨fun D hD => ?_⟩
  refine lc_range (lo := 0) (Qd := fun H => Q (.ref D) H) (fun j H => H D = some (.lst ((((List.range j).filter pz).map f).map V.int)) ∧ Same H1 H) ⟨upd_same, same_new hD⟩ ?_ ?_
  · rintro j H hj ⟨h1, e⟩
    show gName i (.int (0 + (j : Int))) (wipe σ vs) H _
    rw [Int.zero_add]
    have rs : List.range (j + 1) = List.range j ++ [j] := List.range_succ
    refine hs j H _ _ hj e (fun hp => ?_) (fun hp => ?_)
    · refine ⟨_, h1, ?_, ?_, fun b o hb => ?_⟩
      · have : ((List.range j).filter pz).length ≤ (List.range j).length := List.length_filter_le _ _
        rw [List.length_range] at this
        rw [List.length_map, List.length_map]; omega
      · rw [upd_same, rs, List.filter_append, List.filter_cons_of_pos hp, List.filter_nil, List.map_append, List.map_append]; rfl
      · rw [upd_ne (ne_of_none hb hD)]
        exact e _ _ hb
    · refine ⟨?_, e⟩
      rw [rs, List.filter_append, List.filter_cons_of_neg (by rw [hp]; exact Bool.false_ne_true), List.filter_nil, List.append_nil]
      exact h1
  · rintro H ⟨h1, e⟩
    exact hd D H hD h1 e
end S
namespace S
open PySem PySem.Spec PyProof.Rows L2
def t__law_bitmap_1 (K : Frag) (E : XK) : TS :=
    tRet (dGiv (CF K "Bitmap" ["ends", "size"]) (dMake K "Bitmap" (sp_Bitmapdd_initdd K) (EW E) (tCons (dVar 1) (tCons (dVar 2) (tNil)))))
def t__law_bitmap (K : Frag) (E : XK) : TS :=
    tSeq (tAsg (dLc (iRng (tCons (dVar 1) (tNil))) (gName 3) (dCmpT (oNe K) (tOp oAnd (tOp oShr (dVar 0) (dVar 3)) (tC (.int 1))) (tOp oAnd (tOp oShr (tOp oMulA (tC (.int 2)) (dVar 0)) (dVar 3)) (tC (.int 1)))) (dVar 3) [3]) (gName 2))
    (stop (t__law_bitmap_1 K E))
end S
-- fn: _law_bitmap
-- law: k46
-- deps: M46 Lrf Bitmap_init
namespace S
open PySem PySem.Spec PyProof.Rows L2
def sp__law_bitmap (K : Frag) : Sp := fun vs H Q _ => ∃ (m n : Nat), vs = [.int m, .int n] ∧ n ≤ 10 ∧ ∀ x H', Same H H' → H x = none → Bs K H' x n (bitN m) S46 → Q (.ref x) H'
theorem pure__law_bitmap {K : Frag} (vs : List V) (H : Hp) (Q : VK) (E : XK) (h : sp__law_bitmap K vs H Q E) : t__law_bitmap K E { nx := fun _ H' => Q .non H', rt := Q } (start ["_law_mask", "_law_size", "_law_ends", "_law_row"] vs) H := by
  obtain ⟨m, n, rfl, ln, q⟩ := h
  walk_at "gx"
  refine lc_rngF (m := n) (fun j => m.testBit j != preN m j) (fun j => (j : Int)) (by rw [sizeLine_eq]; omega) ?_ ?_
  · intro j H2 A B hj e hA hB
    refine ⟨rfl, ?_⟩
    walk_at "gx"
    show (if (!decide (Builtin.bitAnd ((m : Int) / 2 ^ ((j : Nat) : Int).toNat) 1 = Builtin.bitAnd ((2 * (m : Int)) / 2 ^ ((j : Nat) : Int).toNat) 1)) = true then A (.int j) H2 else B H2)
    have e2 : (2 * (m : Int)) = ((2 * m : Nat) : Int) := by omega
    rw [e2, bit_val, bit_val, bit_twice]
    have e3 : bitN m (j : Int) = m.testBit j := rfl
    rw [e3]
    cases h1 : m.testBit j <;> cases h2 : preN m j <;> rw [h1, h2] at hA hB <;> first
      | exact hA rfl
      | exact hB rfl
  · intro D H1 nD hD e
    walk_at "gx"
    refine fun cf => ?_
    refine mk_bitmap (n := n) (es := chgE m n) cf (.inl (SqL.of hD)) (fun _ _ x H2 e2 nx hx => ?_) (fun nb => absurd ⟨by omega, chgE_ends m n⟩ nb)
    refine q x H2 (e.trans e2) (same_none e nx) ⟨chgE m n, hx, fun z hz => mem46 (chgE_mem hz).1 (by have := (chgE_mem hz).2; omega), fun row r0 r1 => ?_⟩
    have := chgE_in m n row.toNat
    rw [show ((row.toNat : Nat) : Int) = row by omega] at this
    rw [this, if_pos (by omega)]; rfl
end S
-- deps: Lc D0
/-! ## comprehensions over range; stretches as lists -/
namespace S
open PySem PySem.Spec PyProof.Rows L2
theorem lc_rng {m i : Nat} {te : TE} {vs : List Nat} {σ : L2.St} {H1 : Hp} {Q : VK} (R : Addr → Nat → V → Hp → Prop) (hz : m < sizeLine)
    (mono : ∀ D j y H H' l, H D = some (.lst l) → R D j y H → SameX D H H' → R D j y H')
    (hs : ∀ (D : Addr) (l : List V) (j : Nat) (H : Hp) (A : V → Hp → Prop), H1 D = none → H D = some (.lst l) → j < m → Same H1 H → (∀ y H', Same H H' → R D j y H' → A y H') → wipe ((wipe σ vs).set i (some (.int j))) vs = wipe σ vs ∧ te ((wipe σ vs).set i (some (.int j))) H A)
    (hd : ∀ D ys H', H1 D = none → H' D = some (.lst ys) → ys.length = m → (∀ j y, ys[j]? = some y → R D j y H') → Same H1 H' → Q (.ref D) H') :
    Wr (LcGo (gName i) tYes te vs σ Q) (Itr 0 m) H1 := by
  refine ⟨fun D hD => ?_⟩
  refine lc_range (lo := 0) (Qd := fun H => Q (.ref D) H) (fun j H => ∃ ys, H D = some (.lst ys) ∧ ys.length = j ∧ (∀ k y, ys[k]? = some y → R D k y H) ∧ Same H1 H) ⟨[], upd_same, rfl, fun k y h => by simp at h, same_new hD⟩ ?_ ?_
  · rintro j H hj ⟨ys, h1, h2, h3, e⟩
    obtain ⟨w, q⟩ := hs D ys j H (fun y H4 => ∃ acc, H4 D = some (.lst acc) ∧ acc.length < sizeLine ∧ ∃ ys, upd H4 D (.lst (acc ++ [y])) D = some (.lst ys) ∧ ys.length = j + 1 ∧ (∀ k y', ys[k]? = some y' → R D k y' (upd H4 D (.lst (acc ++ [y])))) ∧ Same H1 (upd H4 D (.lst (acc ++ [y])))) hD h1 hj e fun y H' e2 r => by
      have si : SameX D H' (L2.upd H' D (.lst (ys ++ [y]))) := SameX.upd
      refine ⟨ys, e2 _ _ h1, by omega, ys ++ [y], upd_same, by rw [List.length_append, List.length_singleton, h2], fun k y' hk => ?_, fun b o hb => ?_⟩
      · by_cases hkj : k < ys.length
        · rw [List.getElem?_append_left hkj] at hk
          exact mono _ _ _ _ _ _ h1 (h3 k y' hk) (Same.thenX e2 si)
        · have hk2 : k < ys.length + 1 := by
            obtain ⟨h, _⟩ := List.getElem?_eq_some_iff.mp hk
            rw [List.length_append, List.length_singleton] at h; exact h
          have ek : k = j := by omega
          subst ek
          rw [List.getElem?_append_right (by omega), h2, Nat.sub_self] at hk
          have ey : y = y' := by simpa using hk
          rw [← ey]
          exact mono _ _ _ _ _ _ (e2 _ _ h1) r si
      · rw [upd_ne (ne_of_none hb hD)]
        exact e2 _ _ (e _ _ hb)
    show gName i (.int (0 + (j : Int))) (wipe σ vs) H _
    rw [Int.zero_add]
    refine ⟨w, ?_⟩
    unfold tYes
    dsimp only
    rw [if_pos rfl]
    exact q
  · rintro H ⟨ys, h1, h2, h3, e⟩
    exact hd D ys H hD h1 h2 h3 e
end S
namespace S
open PySem PySem.Spec PyProof.Rows L2
def t__law_tried_6 (K : Frag) (E : XK) : TS :=
    tRet (dTup K (tCons (dVar 5) (tCons (dVar 6) (tNil))))
def t__law_tried_5 (K : Frag) (E : XK) : TS :=
    tSeq (dGivS (ExF K "SizesDiffer" ["SliceError"]) (dGivS (ExF K "BadAnswer" ["SliceError"]) (dTryC K [("SizesDiffer", some 7, fun a1 cls1 d1 => tSeq (tAsg (tC (.str "size")) (gName 5))
    (dIfS (dOr (dNot (dTest K (dGiv (MF K "SliceError" [] veTys) (tCB (cIsE K a1 cls1 d1) (tCons (dVar 7) (tCons (tC (.ref (He.ga K "SliceError"))) (tNil))))))) (dTest K (dGiv (MF K "BadAnswer" ["SliceError"] veTys) (tCB (cIsE K a1 cls1 d1) (tCons (dVar 7) (tCons (tC (.ref (He.ga K "BadAnswer"))) (tNil))))))) (tAsg (tC (.str "other")) (gName 5)) (tNext))), ("BadAnswer", some 7, fun a1 cls1 d1 => tSeq (tAsg (tC (.str "bad")) (gName 5))
    (dIfS (dNot (dTest K (dGiv (MF K "SliceError" [] veTys) (tCB (cIsE K a1 cls1 d1) (tCons (dVar 7) (tCons (tC (.ref (He.ga K "SliceError"))) (tNil))))))) (tAsg (tC (.str "other")) (gName 5)) (tNext)))] (fun W1 => tAsg (dGiv (DF K "Answer" [] ["rows", "yes", "no"]) (dMake K "Answer" (sp_Answerdd_initdd K) (WE W1) (tCons (tOp (oIx K) (dVar 4) (tC (.int 0))) (tCons (tOp (oIx K) (dVar 4) (tC (.int 1))) (tCons (tOp (oIx K) (dVar 4) (tC (.int 2))) (tNil)))))) (gName 6)) (WD E))))
    (stop (t__law_tried_6 K E))
def t__law_tried_4 (K : Frag) (E : XK) : TS :=
    tSeq (tAsg (tC .non) (gName 6))
    (stop (t__law_tried_5 K E))
def t__law_tried_3 (K : Frag) (E : XK) : TS :=
    tSeq (tAsg (tC (.str "got")) (gName 5))
    (stop (t__law_tried_4 K E))
def t__law_tried_2 (K : Frag) (E : XK) : TS :=
    tSeq (tAsg (dLc (iRng (tCons (tC (.int 3)) (tNil))) (gName 8) (tYes) (dCall (sp__law_bitmap K) (EW E0) (tCons (tOp (oIx K) (dVar 1) (dVar 8)) (tCons (tOp (oIx K) (dVar 3) (dVar 8)) (tNil)))) [8]) (gName 4))
    (stop (t__law_tried_3 K E))
def t__law_tried_1 (K : Frag) (E : XK) : TS :=
    tSeq (dIfS (dCmpT oGt (dVar 2) (tC (.int 0))) (tAsg (tOp (oAdd K) (dVar 0) (tC (.int 1))) (gSub (dVar 3) (tOp oSub (dVar 2) (tC (.int 1))) oSet)) (tNext))
    (stop (t__law_tried_2 K E))
def t__law_tried (K : Frag) (E : XK) : TS :=
    tSeq (tAsg (dLst (tCons (dVar 0) (tCons (dVar 0) (tCons (dVar 0) (tNil))))) (gName 3))
    (stop (t__law_tried_1 K E))
end S
-- fn: _law_tried
-- law: k46
-- deps: _law_bitmap_k46 Answer_ops M46 Lr
namespace S
open PySem PySem.Spec PyProof.Rows L2
def szT (n w k : Nat) : Nat := if k + 1 = w then n + 1 else n
def msT (R Y N k : Nat) : Nat := if k = 0 then R else if k = 1 then Y else N
def sp__law_tried (K : Frag) : Sp := fun vs H Q _ => ∃ (p : Addr) (n R Y N w : Nat), vs = [.int n, .ref p, .int w] ∧ n ≤ 9 ∧ w ≤ 3 ∧ H p = some (.lst [.int R, .int Y, .int N]) ∧ R < 2 ^ n ∧ Y < 2 ^ n ∧ N < 2 ^ n ∧
  (w = 0 → okM R Y N → ∀ t a H', Same H H' → SqT K H' t [.str "got", .ref a] → AnA K H' a n S46 (bitN R) (bitN Y) (bitN N) → Q (.ref t) H') ∧ (w = 0 → ¬ okM R Y N → ∀ t H', Same H H' → SqT K H' t [.str "bad", .non] → Q (.ref t) H') ∧ (1 ≤ w → ∀ t H', Same H H' → SqT K H' t [.str "size", .non] → Q (.ref t) H')
theorem pure__law_tried {K : Frag} (vs : List V) (H : Hp) (Q : VK) (E : XK) (h : sp__law_tried K vs H Q E) : t__law_tried K E { nx := fun _ H' => Q .non H', rt := Q } (start ["_law_size", "_law_masks_here", "_law_wrong", "_law_sizes", "_law_parts", "_law_kind", "_law_answer", "e", "_law_k"] vs) H := by
  obtain ⟨p, n, R, Y, N, w, rfl, ln, lw, hp, hR, hY, hN, q1, q2, q3⟩ := h
  walk_at "gx"
  refine ⟨fun z nz => ?_⟩
  have e0 := same_new (o := .lst [.int (n : Int), .int (n : Int), .int (n : Int)]) nz
  have hz0 : upd H z (.lst [.int (n : Int), .int (n : Int), .int (n : Int)]) z = some (.lst [.int (n : Int), .int (n : Int), .int (n : Int)]) := upd_same
  generalize upd H z (.lst [.int (n : Int), .int (n : Int), .int (n : Int)]) = H1 at *
  have rest : ∀ H2, Same H H2 → H2 z = some (.lst [.int (szT n w 0 : Nat), .int (szT n w 1 : Nat), .int (szT n w 2 : Nat)]) → t__law_tried_2 K E { nx := fun _ H' => Q .non H', rt := Q } [some (.int n), some (.ref p), some (.int w), some (.ref z), none, none, none, none, none] H2 := by
    intro H2 e2 hz2
    have hp2 := e2 _ _ hp
    walk_at "gx"
    refine lc_rng (m := 3) (fun D j y W => ∃ x, y = .ref x ∧ Bs K W x (szT n w j : Nat) (bitN (msT R Y N j)) S46) (by rw [sizeLine_eq]; decide) (fun D j y W W' l hl ⟨x, ex, hx⟩ e => ⟨x, ex, hx.x e hl⟩) ?_ ?_
    · intro D l j W A nD hl hj e hA
      have hpW := e _ _ hp2
      have hzW := e _ _ hz2
      have hm : ([V.int (R : Int), .int (Y : Int), .int (N : Int)])[j]? = some (.int (msT R Y N j : Nat)) := by
        rcases j with _ | _ | _ | j
        · rfl
        · rfl
        · rfl
        · omega
      have hs : ([V.int (szT n w 0 : Nat), .int (szT n w 1 : Nat), .int (szT n w 2 : Nat)])[j]? = some (.int (szT n w j : Nat)) := by
        rcases j with _ | _ | _ | j
        · rfl
        · rfl
        · rfl
        · omega
      refine ⟨rfl, ?_⟩
      walk_at "gx"
      refine S.At.of (v := .int (msT R Y N j : Nat)) (atI_nat hm) ?_
      refine Rd.l hzW (S.At.of (v := .int (szT n w j : Nat)) (atI_nat hs) ?_)
      refine ⟨msT R Y N j, szT n w j, rfl, by unfold szT; split <;> omega, fun x W2 e2 nx hx => ?_⟩
      exact hA _ _ e2 ⟨x, rfl, hx⟩
    · intro D ys H3 nD hD ly hy e3
      obtain ⟨x0, x1, x2, rfl, h0, h1, h2⟩ : ∃ x0 x1 x2, ys = [.ref x0, .ref x1, .ref x2] ∧ Bs K H3 x0 (szT n w 0 : Nat) (bitN R) S46 ∧ Bs K H3 x1 (szT n w 1 : Nat) (bitN Y) S46 ∧ Bs K H3 x2 (szT n w 2 : Nat) (bitN N) S46 := by
        match ys, ly with
        | [x, y, z], _ =>
          obtain ⟨x0, e1, g1⟩ := hy 0 x rfl
          obtain ⟨x1, e2, g2⟩ := hy 1 y rfl
          obtain ⟨x2, e3, g3⟩ := hy 2 z rfl
          exact ⟨x0, x1, x2, by rw [e1, e2, e3], g1, g2, g3⟩
      have e23 := e2.trans e3
      walk_at "gx"
      refine fun sfS => ?_
      refine fun sfB => ?_
      show tAsg _ _ _ _ H3
      walk_at "gx"
      refine fun af => ?_
      refine Rd.l hD (S.At.of rfl ?_)
      refine Rd.l hD (S.At.of rfl ?_)
      refine Rd.l hD (S.At.of rfl ?_)
      have iff := okM_iff hR hY hN
      refine mk_answer af kn46 h0 h1 h2 (fun a b ok x H4 e4 nx hx => ?_) (fun a b nb xf H4 e4 => ?_) (fun ns xf H4 e4 => ?_)
      · have w0 : w = 0 := by
          unfold szT at a b
          rcases w with _ | _ | _ | _ | w
          · rfl
          · simp at a; omega
          · simp at a; omega
          · simp at b; omega
          · omega
        subst w0
        walk_at "gx"
        refine ⟨fun t H5 e5 ht => ?_⟩
        exact q1 rfl (iff.mpr ok) t x H5 ((e23.trans e4).trans e5) ht (hx.same e5)
      · have w0 : w = 0 := by
          unfold szT at a b
          rcases w with _ | _ | _ | _ | w
          · rfl
          · simp at a; omega
          · simp at a; omega
          · simp at b; omega
          · omega
        subst w0
        refine cl_no (by rw [mf_exm xf.mf sfS.mf (by decide)] <;> first | rfl | decide) ?_
        refine cl_yes (by rw [mf_exm xf.mf sfB.mf (by decide)] <;> first | rfl | decide) fun ea hea => ?_
        dsimp only [Cl.run, List.map]
        walk_at "gx"
        refine fun m1 => ?_
        refine IsE.of xf.ec (by rw [mf_kit xf.mf m1] <;> first | rfl | decide) ?_
        walk_at "gx"
        refine ⟨fun t H5 e5 ht => ?_⟩
        exact q2 rfl (fun ok => nb (iff.mp ok)) t H5 ((e23.trans e4).trans e5) ht
      · have w1 : 1 ≤ w := by
          rcases w with _ | w
          · exact absurd ⟨rfl, rfl⟩ ns
          · omega
        refine cl_yes (by rw [mf_exm xf.mf sfS.mf (by decide)] <;> first | rfl | decide) fun ea hea => ?_
        dsimp only [Cl.run, List.map]
        walk_at "gx"
        refine fun m1 => ?_
        refine IsE.of xf.ec (by rw [mf_kit xf.mf m1] <;> first | rfl | decide) ?_
        walk_at "gx"
        refine fun m2 => ?_
        refine IsE.of xf.ec (by rw [mf_kit xf.mf m2] <;> first | rfl | decide) ?_
        walk_at "gx"
        refine ⟨fun t H5 e5 ht => ?_⟩
        exact q3 w1 t H5 ((e23.trans e4).trans e5) ht
  walk_at "gx"
  refine ifd (fun h => ?_) (fun h => ?_)
  · have h : (0 : Int) < (w : Int) := h
    have hw : w = 1 ∨ w = 2 ∨ w = 3 := by omega
    walk_at "gx"
    rcases hw with rfl | rfl | rfl
    · exact Pl.of (j := 0) (by show ixN 3 ((1 : Int) - 1) = some 0; decide) ⟨rest _ (Same.mut e0 nz) (by rw [upd_same]; rfl)⟩
    · exact Pl.of (j := 1) (by show ixN 3 ((2 : Int) - 1) = some 1; decide) ⟨rest _ (Same.mut e0 nz) (by rw [upd_same]; rfl)⟩
    · exact Pl.of (j := 2) (by show ixN 3 ((3 : Int) - 1) = some 2; decide) ⟨rest _ (Same.mut e0 nz) (by rw [upd_same]; rfl)⟩
  · have h : ¬ (0 : Int) < (w : Int) := h
    have w0 : w = 0 := by omega
    subst w0
    exact ⟨rest _ e0 hz0⟩
end S
-- deps: D0 D1
/-! ## comprehensions over a range whose items are drawn -/
namespace S
open PySem PySem.Spec PyProof.Rows L2
theorem lc_rngX {K : Frag} {a st : Addr} {m i : Nat} {te : TE} {vs : List Nat} {σ : L2.St} {H1 : Hp} {Q : VK} (P : Nat → V → Prop) (hz : m < sizeLine) (c : Ctx K H1 a st)
    (hs : ∀ (j : Nat) (H : Hp) (A : V → Hp → Prop), j < m → SameX st H1 H → Ctx K H a st → (∀ y H', SameX st H H' → Ctx K H' a st → P j y → A y H') → wipe ((wipe σ vs).set i (some (.int j))) vs = wipe σ vs ∧ te ((wipe σ vs).set i (some (.int j))) H A)
    (hd : ∀ D ys H', H1 D = none → H' D = some (.lst ys) → ys.length = m → (∀ j y, ys[j]? = some y → P j y) → SameX st H1 H' → Ctx K H' a st → Q (.ref D) H') :
    Wr (LcGo (gName i) tYes te vs σ Q) (Itr 0 m) H1 := by
  refine ⟨fun D hD => ?_⟩
  have dst := ctx_ne c hD
  refine lc_range (lo := 0) (Qd := fun H => Q (.ref D) H) (fun j H => ∃ ys, H D = some (.lst ys) ∧ ys.length = j ∧ (∀ k y, ys[k]? = some y → P k y) ∧ SameX st H1 H ∧ Ctx K H a st) ⟨[], upd_same, rfl, fun k y h => by simp at h, Same.x (same_new hD), c.same (same_new hD)⟩ ?_ ?_
  · rintro j H hj ⟨ys, h1, h2, h3, e, cc⟩
    obtain ⟨w, q⟩ := hs j H (fun y H4 => ∃ acc, H4 D = some (.lst acc) ∧ acc.length < sizeLine ∧ ∃ ys, upd H4 D (.lst (acc ++ [y])) D = some (.lst ys) ∧ ys.length = j + 1 ∧ (∀ k y', ys[k]? = some y' → P k y') ∧ SameX st H1 (upd H4 D (.lst (acc ++ [y]))) ∧ Ctx K (upd H4 D (.lst (acc ++ [y]))) a st) hj e cc fun y H' e2 c2 r => by
      refine ⟨ys, e2 _ _ h1 dst, by omega, ys ++ [y], upd_same, by rw [List.length_append, List.length_singleton, h2], fun k y' hk => ?_, SameX.mut (e.trans e2) hD, c2.mut c hD⟩
      by_cases hkj : k < ys.length
      · rw [List.getElem?_append_left hkj] at hk
        exact h3 k y' hk
      · have hk2 : k < ys.length + 1 := by
          obtain ⟨h, _⟩ := List.getElem?_eq_some_iff.mp hk
          rw [List.length_append, List.length_singleton] at h; exact h
        have ek : k = j := by omega
        subst ek
        rw [List.getElem?_append_right (by omega), h2, Nat.sub_self] at hk
        have ey : y = y' := by simpa using hk
        rw [← ey]
        exact r
    show gName i (.int (0 + (j : Int))) (wipe σ vs) H _
    rw [Int.zero_add]
    refine ⟨w, ?_⟩
    unfold tYes
    dsimp only
    rw [if_pos rfl]
    exact q
  · rintro H ⟨ys, h1, h2, h3, e, cc⟩
    exact hd D ys H hD h1 h2 h3 e cc
end S
namespace S
open PySem PySem.Spec PyProof.Rows L2
def t__law_masks_2 (K : Frag) (E : XK) : TS :=
    tRet (dVar 3)
def t__law_masks_1 (K : Frag) (E : XK) : TS :=
    tSeq (dIfS (dCmpT (oNe K) (dCall (sp__law_draw K) (EW E) (tCons (dVar 0) (tCons (dVar 1) (tCons (tC (.int 4)) (tNil))))) (tC (.int 1))) (tSeq (tAsg (tOp oAnd (tOp (oIx K) (dVar 3) (tC (.int 1))) (tOp (oIx K) (dVar 3) (tC (.int 0)))) (gSub (dVar 3) (tC (.int 1)) oSet))
    (tAsg (tOp oAnd (tOp (oIx K) (dVar 3) (tC (.int 2))) (tOp oSub (tOp (oIx K) (dVar 3) (tC (.int 0))) (tOp (oIx K) (dVar 3) (tC (.int 1))))) (gSub (dVar 3) (tC (.int 2)) oSet))) (tNext))
    (stop (t__law_masks_2 K E))
def t__law_masks (K : Frag) (E : XK) : TS :=
    tSeq (tAsg (dLc (iRng (tCons (tC (.int 3)) (tNil))) (gName 4) (tYes) (dCall (sp__law_draw K) (EW E0) (tCons (dVar 0) (tCons (dVar 1) (tCons (tOp oShl (tC (.int 1)) (dVar 2)) (tNil))))) [4]) (gName 3))
    (stop (t__law_masks_1 K E))
end S
-- fn: _law_masks
-- law: k46
-- deps: M46 Lrx _law_draw
namespace S
open PySem PySem.Spec PyProof.Rows L2
def sp__law_masks (K : Frag) : Sp := fun vs H Q _ => ∃ (a st : Addr) (n : Nat), vs = [.ref a, .ref st, .int n] ∧ Ctx K H a st ∧ n ≤ 9 ∧
  ∀ (p : Addr) (R Y N : Nat) (H' : Hp), H p = none → H' p = some (.lst [.int R, .int Y, .int N]) → R < 2 ^ n → Y < 2 ^ n → N < 2 ^ n → Ctx K H' a st → SameX st H H' → Q (.ref p) H'
theorem pure__law_masks {K : Frag} (vs : List V) (H : Hp) (Q : VK) (E : XK) (h : sp__law_masks K vs H Q E) : t__law_masks K E { nx := fun _ H' => Q .non H', rt := Q } (start ["_law_script", "_law_state", "_law_size", "_law_masks_here", "_law_k"] vs) H := by
  obtain ⟨a, st, n, rfl, hc, ln, q⟩ := h
  have p9 : (2 : Nat) ^ n ≤ 2 ^ 9 := Nat.pow_le_pow_right (by decide) ln
  have pp : (0 : Nat) < 2 ^ n := Nat.two_pow_pos n
  walk_at "gx"
  refine lc_rngX (K := K) (a := a) (st := st) (m := 3) (fun _ y => ∃ R : Nat, y = .int R ∧ R < 2 ^ n) (by rw [sizeLine_eq]; decide) hc ?_ ?_
  · intro j H2 A hj e c hA
    refine ⟨rfl, ?_⟩
    walk_at "gx"
    have e1 : (1 : Int) * 2 ^ ((n : Nat) : Int).toNat = ((2 ^ n : Nat) : Int) := by
      rw [Int.one_mul, Int.toNat_natCast, Int.natCast_pow]; rfl
    refine ⟨a, st, _, rfl, c, by show 0 < (1 : Int) * 2 ^ ((n : Nat) : Int).toNat; rw [e1]; omega, fun r H3 r0 r1 c3 e3 => ?_⟩
    have r1 : r < (1 : Int) * 2 ^ ((n : Nat) : Int).toNat := r1
    rw [e1] at r1
    exact hA _ _ e3 c3 ⟨r.toNat, by congr 1; omega, by omega⟩
  · intro p ys H1 np hp ly hy s c
    obtain ⟨R, Y, N, rfl, hR, hY, hN⟩ : ∃ R Y N : Nat, ys = [.int R, .int Y, .int N] ∧ R < 2 ^ n ∧ Y < 2 ^ n ∧ N < 2 ^ n := by
      match ys, ly with
      | [x, y, z], _ =>
        obtain ⟨R, e1, h1⟩ := hy 0 x rfl
        obtain ⟨Y, e2, h2⟩ := hy 1 y rfl
        obtain ⟨N, e3, h3⟩ := hy 2 z rfl
        exact ⟨R, Y, N, by rw [e1, e2, e3], h1, h2, h3⟩
    have pst := ctx_ne hc np
    walk_at "gx"
    refine ⟨a, st, _, rfl, c, by decide, fun w H2 w0 w1 c2 e2 => ?_⟩
    have hp2 := e2 _ _ hp pst
    walk_at "gx"
    refine ifn (fun g => ?_) (fun g => ?_)
    · walk_at "gx"
      have eb : Builtin.bitAnd (Y : Int) (R : Int) = ((Y &&& R : Nat) : Int) := PySem.W.os_band Y R
      have sub : (Y &&& R) &&& R = Y &&& R := in_and fun i hi => by rw [Nat.testBit_and] at hi; exact (Bool.and_eq_true_iff.mp hi).2
      obtain ⟨l1, l2, _⟩ := sub_in sub
      have eb2 : Builtin.bitAnd (N : Int) ((R : Int) - ((Y &&& R : Nat) : Int)) = ((N &&& (R - (Y &&& R)) : Nat) : Int) := by rw [l2]; exact PySem.W.os_band _ _
      have lt1 : Y &&& R < 2 ^ n := Nat.lt_of_le_of_lt Nat.and_le_right hR
      have lt2 : N &&& (R - (Y &&& R)) < 2 ^ n := Nat.lt_of_le_of_lt Nat.and_le_left hN
      refine q p R (Y &&& R) (N &&& (R - (Y &&& R))) _ np ?_ hR lt1 lt2 ((c2.mut hc np).mut hc np) (SameX.mut (SameX.mut (s.trans e2) np) np)
      rw [upd_same]
      show some (HO.lst [V.int (R : Int), .int (Builtin.bitAnd (Y : Int) (R : Int)), .int (Builtin.bitAnd (N : Int) ((R : Int) - Builtin.bitAnd (Y : Int) (R : Int)))]) = _
      rw [eb, eb2]
    · refine ⟨?_⟩
      exact q p R Y N _ np hp2 hR hY hN c2 (s.trans e2)
end S
namespace S
open PySem PySem.Spec PyProof.Rows L2
def t__law_good_1 (K : Frag) (E : XK) : TS :=
    tRet (dAndV (tOp (oEq K) (tOp oAnd (tOp (oIx K) (dVar 0) (tC (.int 1))) (tOp (oIx K) (dVar 0) (tC (.int 0)))) (tOp (oIx K) (dVar 0) (tC (.int 1)))) (tOp (oEq K) (tOp oAnd (tOp (oIx K) (dVar 0) (tC (.int 2))) (tOp (oIx K) (dVar 0) (tC (.int 0)))) (tOp (oIx K) (dVar 0) (tC (.int 2)))))
def t__law_good (K : Frag) (E : XK) : TS :=
    tSeq (dIfS (dCmpT (oNe K) (tOp oAnd (tOp (oIx K) (dVar 0) (tC (.int 1))) (tOp (oIx K) (dVar 0) (tC (.int 2)))) (tC (.int 0))) (tRet (tC (.bl false))) (tNext))
    (stop (t__law_good_1 K E))
end S
-- fn: _law_good
-- law: k46
-- deps: M46
namespace S
open PySem PySem.Spec PyProof.Rows L2
def sp__law_good (K : Frag) : Sp := fun vs H Q _ => ∃ (p : Addr) (R Y N : Nat), vs = [.ref p] ∧ H p = some (.lst [.int R, .int Y, .int N]) ∧ (okM R Y N → Q (.bl true) H) ∧ (¬ okM R Y N → Q (.bl false) H)
theorem pure__law_good {K : Frag} (vs : List V) (H : Hp) (Q : VK) (E : XK) (h : sp__law_good K vs H Q E) : t__law_good K E { nx := fun _ H' => Q .non H', rt := Q } (start ["_law_masks_here"] vs) H := by
  obtain ⟨p, R, Y, N, rfl, hp, q1, q2⟩ := h
  walk_at "gx"
  refine ifb (fun h1 => ?_) (fun h1 => ?_)
  · have h1 : (!decide (Builtin.bitAnd (Y : Int) (N : Int) = 0)) = true := h1
    rw [PySem.W.os_band] at h1
    refine q2 fun ok => ?_
    rw [ok.1] at h1
    exact absurd h1 (by decide)
  · have h1 : (!decide (Builtin.bitAnd (Y : Int) (N : Int) = 0)) = false := h1
    rw [PySem.W.os_band] at h1
    have h1 : Y &&& N = 0 := by
      have : ((Y &&& N : Nat) : Int) = 0 := by simpa using h1
      omega
    refine ⟨?_⟩
    walk_at "gx"
    refine ifb (fun h2 => ?_) (fun h2 => ?_)
    · have h2 : decide (Builtin.bitAnd (Y : Int) (R : Int) = (Y : Int)) = true := h2
      rw [PySem.W.os_band] at h2
      have h2 : Y &&& R = Y := by have := of_decide_eq_true h2; omega
      walk_at "gx"
      show Q (.bl (decide (Builtin.bitAnd (N : Int) (R : Int) = (N : Int)))) H
      rw [PySem.W.os_band]
      by_cases h3 : N &&& R = N
      · rw [decide_eq_true (by omega)]; exact q1 ⟨h1, h2, h3⟩
      · rw [decide_eq_false (by omega)]; exact q2 fun ok => h3 ok.2.2
    · have h2 : decide (Builtin.bitAnd (Y : Int) (R : Int) = (Y : Int)) = false := h2
      rw [PySem.W.os_band] at h2
      refine q2 fun ok => ?_
      have := of_decide_eq_false h2
      exact this (by rw [ok.2.1])
end S
namespace S
open PySem PySem.Spec PyProof.Rows L2
def t_law_13 (K : Frag) (E : XK) : TS :=
    tRet (tC (.bl true))
def t_law_12 (K : Frag) (E : XK) : TS :=
    tSeq (dIfS (dAnd (dCmpT (oEq K) (tOp (oIx K) (dVar 6) (tC (.int 0))) (tC (.str "got"))) (dCmpT (oEq K) (tOp (oIx K) (dVar 7) (tC (.int 0))) (tC (.str "got")))) (tSeq (dIfS (dNot (dTest K (dCall (sp__law_both K) (EW E) (tCons (tOp (oIx K) (dVar 6) (tC (.int 1))) (tCons (tOp (oIx K) (dVar 7) (tC (.int 1))) (tCons (dVar 2) (tCons (dVar 3) (tCons (dVar 4) (tNil))))))))) (tRet (tC (.bl false))) (tNext))
    (tRet (dAndV (dCall (sp__law_is K) (EW E) (tCons (tOp (oIx K) (dVar 6) (tC (.int 1))) (tCons (dVar 2) (tCons (dVar 3) (tNil))))) (dCall (sp__law_is K) (EW E) (tCons (tOp (oIx K) (dVar 7) (tC (.int 1))) (tCons (dVar 2) (tCons (dVar 4) (tNil)))))))) (tNext))
    (stop (t_law_13 K E))
def t_law_11 (K : Frag) (E : XK) : TS :=
    tSeq (dIfS (dAnd (dCmpT (oEq K) (tOp (oIx K) (dVar 6) (tC (.int 0))) (tC (.str "got"))) (dNot (dTest K (dCall (sp__law_alone K) (EW E) (tCons (tOp (oIx K) (dVar 6) (tC (.int 1))) (tCons (dVar 2) (tCons (dVar 3) (tNil)))))))) (tRet (tC (.bl false))) (tNext))
    (stop (t_law_12 K E))
def t_law_10 (K : Frag) (E : XK) : TS :=
    tSeq (dIfS (dOr (dCmpT (oNe K) (tOp (oIx K) (dVar 6) (tC (.int 0))) (tOp (oIx K) (dLst (tCons (tC (.str "bad")) (tCons (tC (.str "got")) (tNil)))) (tCB cInt (tCons (dCall (sp__law_good K) (EW E) (tCons (dVar 3) (tNil))) (tNil))))) (dCmpT (oNe K) (tOp (oIx K) (dVar 7) (tC (.int 0))) (tOp (oIx K) (dLst (tCons (tC (.str "bad")) (tCons (tC (.str "got")) (tNil)))) (tCB cInt (tCons (dCall (sp__law_good K) (EW E) (tCons (dVar 4) (tNil))) (tNil)))))) (tRet (tC (.bl false))) (tNext))
    (stop (t_law_11 K E))
def t_law_9 (K : Frag) (E : XK) : TS :=
    tSeq (tAsg (dCall (sp__law_tried K) (EW E) (tCons (dVar 2) (tCons (dVar 4) (tCons (tC (.int 0)) (tNil))))) (gName 7))
    (stop (t_law_10 K E))
def t_law_8 (K : Frag) (E : XK) : TS :=
    tSeq (tAsg (dCall (sp__law_tried K) (EW E) (tCons (dVar 2) (tCons (dVar 3) (tCons (tC (.int 0)) (tNil))))) (gName 6))
    (stop (t_law_9 K E))
def t_law_7 (K : Frag) (E : XK) : TS :=
    tSeq (dIfS (dCmpT (oNe K) (tOp (oIx K) (dCall (sp__law_tried K) (EW E) (tCons (dVar 2) (tCons (dVar 4) (tCons (tOp (oAdd K) (tC (.int 1)) (dCall (sp__law_draw K) (EW E) (tCons (dVar 0) (tCons (dVar 1) (tCons (tC (.int 3)) (tNil)))))) (tNil))))) (tC (.int 0))) (tC (.str "size"))) (tRet (tC (.bl false))) (tNext))
    (stop (t_law_8 K E))
def t_law_6 (K : Frag) (E : XK) : TS :=
    tSeq (dIfS (dAnd (dCmpT oGt (dVar 5) (tC (.int 0))) (dCmpT (oNe K) (tOp (oIx K) (dCall (sp__law_tried K) (EW E) (tCons (dVar 2) (tCons (dVar 3) (tCons (dVar 5) (tNil))))) (tC (.int 0))) (tC (.str "size")))) (tRet (tC (.bl false))) (tNext))
    (stop (t_law_7 K E))
def t_law_5 (K : Frag) (E : XK) : TS :=
    tSeq (tAsg (dCall (sp__law_draw K) (EW E) (tCons (dVar 0) (tCons (dVar 1) (tCons (tC (.int 4)) (tNil))))) (gName 5))
    (stop (t_law_6 K E))
def t_law_4 (K : Frag) (E : XK) : TS :=
    tSeq (dIfS (dCmpT (oNe K) (dCall (sp__law_draw K) (EW E) (tCons (dVar 0) (tCons (dVar 1) (tCons (tC (.int 3)) (tNil))))) (tC (.int 1))) (tAsg (dLst (tCons (tOp (oIx K) (dVar 3) (tC (.int 0))) (tCons (tOp oAnd (tOp (oIx K) (dVar 4) (tC (.int 1))) (tOp (oIx K) (dVar 3) (tC (.int 0)))) (tCons (tOp oAnd (tOp (oIx K) (dVar 4) (tC (.int 2))) (tOp (oIx K) (dVar 3) (tC (.int 0)))) (tNil))))) (gName 4)) (tNext))
    (stop (t_law_5 K E))
def t_law_3 (K : Frag) (E : XK) : TS :=
    tSeq (tAsg (dCall (sp__law_masks K) (EW E) (tCons (dVar 0) (tCons (dVar 1) (tCons (dVar 2) (tNil))))) (gName 4))
    (stop (t_law_4 K E))
def t_law_2 (K : Frag) (E : XK) : TS :=
    tSeq (tAsg (dCall (sp__law_masks K) (EW E) (tCons (dVar 0) (tCons (dVar 1) (tCons (dVar 2) (tNil))))) (gName 3))
    (stop (t_law_3 K E))
def t_law_1 (K : Frag) (E : XK) : TS :=
    tSeq (tAsg (dCall (sp__law_draw K) (EW E) (tCons (dVar 0) (tCons (dVar 1) (tCons (tC (.int 10)) (tNil))))) (gName 2))
    (stop (t_law_2 K E))
def t_law (K : Frag) (E : XK) : TS :=
    tSeq (tAsg (dLst (tCons (tC (.int 0)) (tCons (tC (.int 0)) (tCons (tC (.int 0)) (tCons (tC (.int 0)) (tNil)))))) (gName 1))
    (stop (t_law_1 K E))
end S
-- fn: law
-- law: k46
-- deps: _law_alone _law_both_k46 _law_tried_k46 _law_masks _law_good_k46 _law_draw D0 D1
namespace S
open PySem PySem.Spec PyProof.Rows L2
def tvL (b : Bool) (x : Addr) : List V := match b with
  | true => [.str "got", .ref x]
  | false => [.str "bad", .non]
section
variable {K : Frag} {E : XK} {Q : VK} {H : Hp} {a st p r t1 t2 x1 x2 : Addr} {n R Y N R2 Y2 N2 : Nat} {w : Nat}
theorem k46_11 {b1 b2 : Bool} (ln : n ≤ 9) (hp : H p = some (.lst [.int R, .int Y, .int N])) (hr : H r = some (.lst [.int R2, .int Y2, .int N2])) (l : R < 2 ^ n ∧ Y < 2 ^ n ∧ N < 2 ^ n) (l2 : R2 < 2 ^ n ∧ Y2 < 2 ^ n ∧ N2 < 2 ^ n)
    (h1 : SqT K H t1 (tvL b1 x1)) (h2 : SqT K H t2 (tvL b2 x2)) (m1 : b1 = true → MA K H x1 n R Y N) (m2 : b2 = true → MA K H x2 n R2 Y2 N2) (q : ∀ H', Q (.bl true) H') :
    t_law_11 K E { nx := fun _ H' => Q .non H', rt := Q } [some (.ref a), some (.ref st), some (.int n), some (.ref p), some (.ref r), some (.int w), some (.ref t1), some (.ref t2)] H := by
  cases b1 with
  | false =>
    have h1 : SqT K H t1 [.str "bad", .non] := h1
    walk_at "gx"
    exact q _
  | true =>
    have h1 : SqT K H t1 [.str "got", .ref x1] := h1
    have m1 := m1 rfl
    walk_at "gx"
    refine ⟨x1, p, n, R, Y, N, rfl, ln, hp, m1, fun H1 e1 => ?_⟩
    have h1 := Same.tup e1 h1
    have h2 := Same.tup e1 h2
    walk_at "gx"
    cases b2 with
    | false =>
      have h2 : SqT K H1 t2 [.str "bad", .non] := h2
      walk_at "gx"
      exact q _
    | true =>
      have h2 : SqT K H1 t2 [.str "got", .ref x2] := h2
      have m2 := m2 rfl
      walk_at "gx"
      refine ⟨x1, x2, p, r, n, R, Y, N, R2, Y2, N2, rfl, ln, e1 _ _ hp, e1 _ _ hr, m1.same e1, m2.same e1, l, l2, fun H2 e2 => ?_⟩
      have h1 := Same.tup e2 h1
      have h2 := Same.tup e2 h2
      have e12 := e1.trans e2
      walk_at "gx"
      refine ⟨x1, p, n, R, Y, N, rfl, ln, e12 _ _ hp, (m1.same e12).1, (m1.same e12).2, fun H3 e3 => ?_⟩
      have h2 := Same.tup e3 h2
      have e13 := e12.trans e3
      walk_at "gx"
      refine ⟨x2, r, n, R2, Y2, N2, rfl, ln, e13 _ _ hr, (m2.same e13).1, (m2.same e13).2, fun H4 e4 => ?_⟩
      exact q _
theorem k46_10 {b1 b2 : Bool} (ln : n ≤ 9) (hp : H p = some (.lst [.int R, .int Y, .int N])) (hr : H r = some (.lst [.int R2, .int Y2, .int N2])) (l : R < 2 ^ n ∧ Y < 2 ^ n ∧ N < 2 ^ n) (l2 : R2 < 2 ^ n ∧ Y2 < 2 ^ n ∧ N2 < 2 ^ n)
    (h1 : SqT K H t1 (tvL b1 x1)) (h2 : SqT K H t2 (tvL b2 x2)) (m1 : b1 = true → MA K H x1 n R Y N) (m2 : b2 = true → MA K H x2 n R2 Y2 N2) (o1 : b1 = true ↔ okM R Y N) (o2 : b2 = true ↔ okM R2 Y2 N2) (q : ∀ H', Q (.bl true) H') :
    t_law_10 K E { nx := fun _ H' => Q .non H', rt := Q } [some (.ref a), some (.ref st), some (.int n), some (.ref p), some (.ref r), some (.int w), some (.ref t1), some (.ref t2)] H := by
  rcases b1 with _ | _ <;> rcases b2 with _ | _
  · have h1 : SqT K H t1 [.str "bad", .non] := h1
    have h2 : SqT K H t2 [.str "bad", .non] := h2
    walk_at "gx"
    refine ⟨fun g ng => ?_⟩
    have e1 := same_new (o := .lst [.str "bad", .str "got"]) ng
    have hg : upd H g (.lst [.str "bad", .str "got"]) g = some (.lst [.str "bad", .str "got"]) := upd_same
    generalize upd H g (.lst [.str "bad", .str "got"]) = H1 at *
    refine ⟨p, R, Y, N, rfl, e1 _ _ hp, fun ok => absurd (o1.mpr ok) (by decide), fun _ => ?_⟩
    have h1 := Same.tup e1 h1
    have h2 := Same.tup e1 h2
    walk_at "gx"
    refine ⟨fun g2 ng2 => ?_⟩
    have e2 := same_new (o := .lst [.str "bad", .str "got"]) ng2
    have hg2 : upd H1 g2 (.lst [.str "bad", .str "got"]) g2 = some (.lst [.str "bad", .str "got"]) := upd_same
    generalize upd H1 g2 (.lst [.str "bad", .str "got"]) = H2 at *
    have e12 := e1.trans e2
    refine ⟨r, R2, Y2, N2, rfl, e12 _ _ hr, fun ok => absurd (o2.mpr ok) (by decide), fun _ => ?_⟩
    have h1 := Same.tup e2 h1
    have h2 := Same.tup e2 h2
    walk_at "go"
    exact ⟨k46_11 (b1 := false) (b2 := false) (x1 := x1) (x2 := x2) ln (e12 _ _ hp) (e12 _ _ hr) l l2 h1 h2 (fun z => (m1 z).same e12) (fun z => (m2 z).same e12) q⟩
  · have h1 : SqT K H t1 [.str "bad", .non] := h1
    have h2 : SqT K H t2 [.str "got", .ref x2] := h2
    walk_at "gx"
    refine ⟨fun g ng => ?_⟩
    have e1 := same_new (o := .lst [.str "bad", .str "got"]) ng
    have hg : upd H g (.lst [.str "bad", .str "got"]) g = some (.lst [.str "bad", .str "got"]) := upd_same
    generalize upd H g (.lst [.str "bad", .str "got"]) = H1 at *
    refine ⟨p, R, Y, N, rfl, e1 _ _ hp, fun ok => absurd (o1.mpr ok) (by decide), fun _ => ?_⟩
    have h1 := Same.tup e1 h1
    have h2 := Same.tup e1 h2
    walk_at "gx"
    refine ⟨fun g2 ng2 => ?_⟩
    have e2 := same_new (o := .lst [.str "bad", .str "got"]) ng2
    have hg2 : upd H1 g2 (.lst [.str "bad", .str "got"]) g2 = some (.lst [.str "bad", .str "got"]) := upd_same
    generalize upd H1 g2 (.lst [.str "bad", .str "got"]) = H2 at *
    have e12 := e1.trans e2
    refine ⟨r, R2, Y2, N2, rfl, e12 _ _ hr, fun _ => ?_, fun nk => absurd (o2.mp rfl) nk⟩
    have h1 := Same.tup e2 h1
    have h2 := Same.tup e2 h2
    walk_at "go"
    exact ⟨k46_11 (b1 := false) (b2 := true) (x1 := x1) (x2 := x2) ln (e12 _ _ hp) (e12 _ _ hr) l l2 h1 h2 (fun z => (m1 z).same e12) (fun z => (m2 z).same e12) q⟩
  · have h1 : SqT K H t1 [.str "got", .ref x1] := h1
    have h2 : SqT K H t2 [.str "bad", .non] := h2
    walk_at "gx"
    refine ⟨fun g ng => ?_⟩
    have e1 := same_new (o := .lst [.str "bad", .str "got"]) ng
    have hg : upd H g (.lst [.str "bad", .str "got"]) g = some (.lst [.str "bad", .str "got"]) := upd_same
    generalize upd H g (.lst [.str "bad", .str "got"]) = H1 at *
    refine ⟨p, R, Y, N, rfl, e1 _ _ hp, fun _ => ?_, fun nk => absurd (o1.mp rfl) nk⟩
    have h1 := Same.tup e1 h1
    have h2 := Same.tup e1 h2
    walk_at "gx"
    refine ⟨fun g2 ng2 => ?_⟩
    have e2 := same_new (o := .lst [.str "bad", .str "got"]) ng2
    have hg2 : upd H1 g2 (.lst [.str "bad", .str "got"]) g2 = some (.lst [.str "bad", .str "got"]) := upd_same
    generalize upd H1 g2 (.lst [.str "bad", .str "got"]) = H2 at *
    have e12 := e1.trans e2
    refine ⟨r, R2, Y2, N2, rfl, e12 _ _ hr, fun ok => absurd (o2.mpr ok) (by decide), fun _ => ?_⟩
    have h1 := Same.tup e2 h1
    have h2 := Same.tup e2 h2
    walk_at "go"
    exact ⟨k46_11 (b1 := true) (b2 := false) (x1 := x1) (x2 := x2) ln (e12 _ _ hp) (e12 _ _ hr) l l2 h1 h2 (fun z => (m1 z).same e12) (fun z => (m2 z).same e12) q⟩
  · have h1 : SqT K H t1 [.str "got", .ref x1] := h1
    have h2 : SqT K H t2 [.str "got", .ref x2] := h2
    walk_at "gx"
    refine ⟨fun g ng => ?_⟩
    have e1 := same_new (o := .lst [.str "bad", .str "got"]) ng
    have hg : upd H g (.lst [.str "bad", .str "got"]) g = some (.lst [.str "bad", .str "got"]) := upd_same
    generalize upd H g (.lst [.str "bad", .str "got"]) = H1 at *
    refine ⟨p, R, Y, N, rfl, e1 _ _ hp, fun _ => ?_, fun nk => absurd (o1.mp rfl) nk⟩
    have h1 := Same.tup e1 h1
    have h2 := Same.tup e1 h2
    walk_at "gx"
    refine ⟨fun g2 ng2 => ?_⟩
    have e2 := same_new (o := .lst [.str "bad", .str "got"]) ng2
    have hg2 : upd H1 g2 (.lst [.str "bad", .str "got"]) g2 = some (.lst [.str "bad", .str "got"]) := upd_same
    generalize upd H1 g2 (.lst [.str "bad", .str "got"]) = H2 at *
    have e12 := e1.trans e2
    refine ⟨r, R2, Y2, N2, rfl, e12 _ _ hr, fun _ => ?_, fun nk => absurd (o2.mp rfl) nk⟩
    have h1 := Same.tup e2 h1
    have h2 := Same.tup e2 h2
    walk_at "go"
    exact ⟨k46_11 (b1 := true) (b2 := true) (x1 := x1) (x2 := x2) ln (e12 _ _ hp) (e12 _ _ hr) l l2 h1 h2 (fun z => (m1 z).same e12) (fun z => (m2 z).same e12) q⟩
end
theorem pure_law {K : Frag} (vs : List V) (H : Hp) (Q : VK) (E : XK) (h : sp_law K vs H Q E) : t_law K E { nx := fun _ H' => Q .non H', rt := Q } (start ["_law_script", "_law_state", "_law_size", "_law_masks_here", "_law_more", "_law_wrong", "_law_first", "_law_second"] vs) H := by
  obtain ⟨a, ns, rfl, hs, q⟩ := h
  walk_at "gx"
  refine ⟨fun st nst => ?_⟩
  have c1 : Ctx K (upd H st (.lst [.int 0, .int 0, .int 0, .int 0])) a st := ctx0 hs nst _ ⟨0, 0, 0, 0, rfl, by decide, by decide, .inl rfl⟩
  generalize upd H st (.lst [.int 0, .int 0, .int 0, .int 0]) = H1 at *
  walk_at "gx"
  refine ⟨a, st, _, rfl, c1, by decide, fun n0 H2 n1 n2 c2 e2 => ?_⟩
  obtain ⟨n, rfl⟩ := Int.eq_ofNat_of_zero_le n1
  have n2 : (n : Int) < 10 := n2
  walk_at "gx"
  refine ⟨a, st, n, rfl, c2, by omega, fun p R Y N H3 np hp lR lY lN c3 e3 => ?_⟩
  have pst := ctx_ne c2 np
  walk_at "gx"
  refine ⟨a, st, n, rfl, c3, by omega, fun r0 R0 Y0 N0 H4 nr0 hr0 lR0 lY0 lN0 c4 e4 => ?_⟩
  have r0st := ctx_ne c3 nr0
  have hp4 := e4 _ _ hp pst
  walk_at "gx"
  refine ⟨a, st, _, rfl, c4, by decide, fun d H5 d0 d1 c5 e5 => ?_⟩
  have hp5 := e5 _ _ hp4 pst
  have hr05 := e5 _ _ hr0 r0st
  have rest : ∀ (r : Addr) (R2 Y2 N2 : Nat) (H6 : Hp), r ≠ st → H6 p = some (.lst [.int R, .int Y, .int N]) → H6 r = some (.lst [.int R2, .int Y2, .int N2]) → R2 < 2 ^ n → Y2 < 2 ^ n → N2 < 2 ^ n → Ctx K H6 a st → t_law_5 K E { nx := fun _ H' => Q .non H', rt := Q } [some (.ref a), some (.ref st), some (.int n), some (.ref p), some (.ref r), none, none, none] H6 := by
    intro r R2 Y2 N2 H6 rst hp6 hr6 lR2 lY2 lN2 c6
    walk_at "gx"
    refine ⟨a, st, _, rfl, c6, by decide, fun w0 H7 w1 w2 c7 e7 => ?_⟩
    obtain ⟨w, rfl⟩ := Int.eq_ofNat_of_zero_le w1
    have w2 : (w : Int) < 4 := w2
    have hp7 := e7 _ _ hp6 pst
    have hr7 := e7 _ _ hr6 rst
    have rest2 : ∀ H8, Same H7 H8 → (stop (t_law_7 K E)) { nx := fun _ H' => Q .non H', rt := Q } [some (.ref a), some (.ref st), some (.int n), some (.ref p), some (.ref r), some (.int w), none, none] H8 := by
      intro H8 e8
      have c8 := c7.same e8
      have hp8 := e8 _ _ hp7
      have hr8 := e8 _ _ hr7
      walk_at "gx"
      refine ⟨a, st, _, rfl, c8, by decide, fun v0 H9 v1 v2 c9 e9 => ?_⟩
      obtain ⟨v, rfl⟩ := Int.eq_ofNat_of_zero_le v1
      have v2 : (v : Int) < 3 := v2
      have hp9 := e9 _ _ hp8 pst
      have hr9 := e9 _ _ hr8 rst
      refine ⟨r, n, R2, Y2, N2, 1 + v, by rw [show ((1 + v : Nat) : Int) = 1 + (v : Int) by omega], by omega, by omega, hr9, lR2, lY2, lN2, (fun z => absurd z (by omega)), (fun z => absurd z (by omega)), fun _ t H10 e10 ht => ?_⟩
      have hp10 := e10 _ _ hp9
      have hr10 := e10 _ _ hr9
      walk_at "gx"
      have fin : ∀ (b1 b2 : Bool) (t1 t2 x1 x2 : Addr) (H12 : Hp), Same H10 H12 → SqT K H12 t1 (tvL b1 x1) → SqT K H12 t2 (tvL b2 x2) → (b1 = true → MA K H12 x1 n R Y N) → (b2 = true → MA K H12 x2 n R2 Y2 N2) → (b1 = true ↔ okM R Y N) → (b2 = true ↔ okM R2 Y2 N2) → t_law_10 K E { nx := fun _ H' => Q .non H', rt := Q } [some (.ref a), some (.ref st), some (.int n), some (.ref p), some (.ref r), some (.int w), some (.ref t1), some (.ref t2)] H12 := fun b1 b2 t1 t2 x1 x2 H12 e h1 h2 m1 m2 o1 o2 =>
        k46_10 (by omega) (e _ _ hp10) (e _ _ hr10) ⟨lR, lY, lN⟩ ⟨lR2, lY2, lN2⟩ h1 h2 m1 m2 o1 o2 q
      have sec : ∀ (b1 : Bool) (t1 x1 : Addr) (H11 : Hp), Same H10 H11 → SqT K H11 t1 (tvL b1 x1) → (b1 = true → MA K H11 x1 n R Y N) → (b1 = true ↔ okM R Y N) → t_law_9 K E { nx := fun _ H' => Q .non H', rt := Q } [some (.ref a), some (.ref st), some (.int n), some (.ref p), some (.ref r), some (.int w), some (.ref t1), none] H11 := by
        intro b1 t1 x1 H11 e11 h1 m1 o1
        walk_at "gx"
        refine ⟨r, n, R2, Y2, N2, 0, rfl, by omega, by omega, e11 _ _ hr10, lR2, lY2, lN2, fun _ ok t2 x2 H12 e12 ht2 hA2 => ?_, fun _ nb t2 H12 e12 ht2 => ?_, fun z => absurd z (by omega)⟩
        · exact ⟨fin b1 true t1 t2 x1 x2 H12 (e11.trans e12) (Same.tup e12 h1) ht2 (fun z => (m1 z).same e12) (fun _ => ⟨ok, _, _, _, hA2, fun _ _ _ => ⟨rfl, rfl, rfl⟩⟩) o1 ⟨fun _ => ok, fun _ => rfl⟩⟩
        · exact ⟨fin b1 false t1 t2 x1 x1 H12 (e11.trans e12) (Same.tup e12 h1) ht2 (fun z => (m1 z).same e12) (fun z => by cases z) o1 ⟨(fun z => by cases z), fun z => absurd z nb⟩⟩
      refine ⟨p, n, R, Y, N, 0, rfl, by omega, by omega, hp10, lR, lY, lN, fun _ ok t1 x1 H11 e11 ht1 hA1 => ?_, fun _ nb t1 H11 e11 ht1 => ?_, fun z => absurd z (by omega)⟩
      · exact ⟨sec true t1 x1 H11 e11 ht1 (fun _ => ⟨ok, _, _, _, hA1, fun _ _ _ => ⟨rfl, rfl, rfl⟩⟩) ⟨fun _ => ok, fun _ => rfl⟩⟩
      · exact ⟨sec false t1 t1 H11 e11 ht1 (fun z => by cases z) ⟨(fun z => by cases z), fun z => absurd z nb⟩⟩
    walk_at "gx"
    refine ifd (fun h => ?_) (fun h => ?_)
    · have h : (0 : Int) < (w : Int) := h
      walk_at "gx"
      refine ⟨p, n, R, Y, N, w, rfl, by omega, by omega, hp7, lR, lY, lN, (fun z => absurd z (by omega)), (fun z => absurd z (by omega)), fun _ t H8 e8 ht => ?_⟩
      walk_at "gx"
      exact (rest2 H8 e8).go
    · exact rest2 H7 (Same.refl _)
  walk_at "gx"
  refine ifn (fun g => ?_) (fun g => ?_)
  · walk_at "gx"
    refine ⟨fun r nr => ?_⟩
    have rst := ctx_ne c5 nr
    have e6 := same_new (o := .lst [.int (R : Int), .int (Builtin.bitAnd (Y0 : Int) (R : Int)), .int (Builtin.bitAnd (N0 : Int) (R : Int))]) nr
    refine ⟨rest r R (Y0 &&& R) (N0 &&& R) _ rst (e6 _ _ hp5) ?_ lR (Nat.lt_of_le_of_lt Nat.and_le_left lY0) (Nat.lt_of_le_of_lt Nat.and_le_left lN0) (c5.same e6)⟩
    rw [upd_same]
    show some (HO.lst [V.int (R : Int), .int (Builtin.bitAnd (Y0 : Int) (R : Int)), .int (Builtin.bitAnd (N0 : Int) (R : Int))]) = _
    rw [PySem.W.os_band, PySem.W.os_band]
  · exact ⟨rest r0 R0 Y0 N0 H5 r0st hp5 hr05 lR0 lY0 lN0 c5⟩
end S
namespace S
open PySem PySem.Spec PyProof.Rows L2
theorem sc__law_draw : FnScope ["_law_script", "_law_state", "_law_base", "_law_here", "_law_number", "_law_digit", "_law_mixed"] ["_law_script", "_law_state", "_law_base"] (defScope s__law_draw) := ⟨rfl, rfl, rfl, by decide +kernel, rfl, by decide +kernel, by decide +kernel⟩
theorem sc__law_masks : FnScope ["_law_script", "_law_state", "_law_size", "_law_masks_here", "_law_k"] ["_law_script", "_law_state", "_law_size"] (defScope s__law_masks) := ⟨rfl, rfl, rfl, by decide +kernel, rfl, by decide +kernel, by decide +kernel⟩
theorem sc_Bitmapdd_initdd : FnScope ["self", "size", "ends", "last", "end"] ["self", "size", "ends"] (defScope s_Bitmapdd_initdd) := ⟨rfl, rfl, rfl, by decide +kernel, rfl, by decide +kernel, by decide +kernel⟩
theorem sc__law_bitmap : FnScope ["_law_mask", "_law_size", "_law_ends", "_law_row"] ["_law_mask", "_law_size"] (defScope s__law_bitmap) := ⟨rfl, rfl, rfl, by decide +kernel, rfl, by decide +kernel, by decide +kernel⟩
theorem sc_next_end : FnScope ["one", "i", "other", "j"] ["one", "i", "other", "j"] (defScope s_next_end) := ⟨rfl, rfl, rfl, by decide +kernel, rfl, by decide +kernel, by decide +kernel⟩
theorem sc_swept : FnScope ["one", "other", "rule", "ends", "i", "j", "first", "second", "bit", "at"] ["one", "other", "rule"] (defScope s_swept) := ⟨rfl, rfl, rfl, by decide +kernel, rfl, by decide +kernel, by decide +kernel⟩
theorem sc_Bitmap_paired : FnScope ["self", "other", "rule"] ["self", "other", "rule"] (defScope s_Bitmap_paired) := ⟨rfl, rfl, rfl, by decide +kernel, rfl, by decide +kernel, by decide +kernel⟩
theorem sc_Bitmapdd_anddd : FnScope ["self", "other"] ["self", "other"] (defScope s_Bitmapdd_anddd) := ⟨rfl, rfl, rfl, by decide +kernel, rfl, by decide +kernel, by decide +kernel⟩
theorem sc_Bitmapdd_booldd : FnScope ["self"] ["self"] (defScope s_Bitmapdd_booldd) := ⟨rfl, rfl, rfl, by decide +kernel, rfl, by decide +kernel, by decide +kernel⟩
theorem sc_Bitmapdd_subdd : FnScope ["self", "other"] ["self", "other"] (defScope s_Bitmapdd_subdd) := ⟨rfl, rfl, rfl, by decide +kernel, rfl, by decide +kernel, by decide +kernel⟩
theorem sc_Answerdd_initdd : FnScope ["self", "rows", "yes", "no"] ["self", "rows", "yes", "no"] (defScope s_Answerdd_initdd) := ⟨rfl, rfl, rfl, by decide +kernel, rfl, by decide +kernel, by decide +kernel⟩
theorem sc__law_tried : FnScope ["_law_size", "_law_masks_here", "_law_wrong", "_law_sizes", "_law_parts", "_law_kind", "_law_answer", "e", "_law_k"] ["_law_size", "_law_masks_here", "_law_wrong"] (defScope s__law_tried) := ⟨rfl, rfl, rfl, by decide +kernel, rfl, by decide +kernel, by decide +kernel⟩
theorem sc__law_good : FnScope ["_law_masks_here"] ["_law_masks_here"] (defScope s__law_good) := ⟨rfl, rfl, rfl, by decide +kernel, rfl, by decide +kernel, by decide +kernel⟩
theorem sc_Answer_unknown : FnScope ["self"] ["self"] (defScope s_Answer_unknown) := ⟨rfl, rfl, rfl, by decide +kernel, rfl, by decide +kernel, by decide +kernel⟩
theorem sc__law_is_number : FnScope ["_law_x"] ["_law_x"] (defScope s__law_is_number) := ⟨rfl, rfl, rfl, by decide +kernel, rfl, by decide +kernel, by decide +kernel⟩
theorem sc_Bitmapdd_containsdd : FnScope ["self", "row", "end"] ["self", "row"] (defScope s_Bitmapdd_containsdd) := ⟨rfl, rfl, rfl, by decide +kernel, rfl, by decide +kernel, by decide +kernel⟩
theorem sc__law_is : FnScope ["_law_answer", "_law_size", "_law_masks_here", "_law_due", "_law_found", "_law_k", "_law_row"] ["_law_answer", "_law_size", "_law_masks_here"] (defScope s__law_is) := ⟨rfl, rfl, rfl, by decide +kernel, rfl, by decide +kernel, by decide +kernel⟩
theorem sc_Answerdd_invertdd : FnScope ["self"] ["self"] (defScope s_Answerdd_invertdd) := ⟨rfl, rfl, rfl, by decide +kernel, rfl, by decide +kernel, by decide +kernel⟩
theorem sc_Answer_surely : FnScope ["self"] ["self"] (defScope s_Answer_surely) := ⟨rfl, rfl, rfl, by decide +kernel, rfl, by decide +kernel, by decide +kernel⟩
theorem sc_Bitmapdd_eqdd : FnScope ["self", "other"] ["self", "other"] (defScope s_Bitmapdd_eqdd) := ⟨rfl, rfl, rfl, by decide +kernel, rfl, by decide +kernel, by decide +kernel⟩
theorem sc_Answerdd_eqdd : FnScope ["self", "other"] ["self", "other"] (defScope s_Answerdd_eqdd) := ⟨rfl, rfl, rfl, by decide +kernel, rfl, by decide +kernel, by decide +kernel⟩
theorem sc_Bitmapdd_ordd : FnScope ["self", "other"] ["self", "other"] (defScope s_Bitmapdd_ordd) := ⟨rfl, rfl, rfl, by decide +kernel, rfl, by decide +kernel, by decide +kernel⟩
theorem sc_Answerdd_anddd : FnScope ["self", "other"] ["self", "other"] (defScope s_Answerdd_anddd) := ⟨rfl, rfl, rfl, by decide +kernel, rfl, by decide +kernel, by decide +kernel⟩
theorem sc_Answerdd_ordd : FnScope ["self", "other"] ["self", "other"] (defScope s_Answerdd_ordd) := ⟨rfl, rfl, rfl, by decide +kernel, rfl, by decide +kernel, by decide +kernel⟩
theorem sc__law_joined : FnScope ["_law_one", "_law_other", "_law_both_here", "_law_kind", "_law_answer"] ["_law_one", "_law_other", "_law_both_here"] (defScope s__law_joined) := ⟨rfl, rfl, rfl, by decide +kernel, rfl, by decide +kernel, by decide +kernel⟩
theorem sc__law_alone : FnScope ["_law_one", "_law_size", "_law_masks_here", "_law_nothing", "_law_third"] ["_law_one", "_law_size", "_law_masks_here"] (defScope s__law_alone) := ⟨rfl, rfl, rfl, by decide +kernel, rfl, by decide +kernel, by decide +kernel⟩
theorem sc__law_both : FnScope ["_law_one", "_law_other", "_law_size", "_law_masks_here", "_law_more", "_law_meet", "_law_join", "_law_alike", "_law_found"] ["_law_one", "_law_other", "_law_size", "_law_masks_here", "_law_more"] (defScope s__law_both) := ⟨rfl, rfl, rfl, by decide +kernel, rfl, by decide +kernel, by decide +kernel⟩
theorem sc_law : FnScope ["_law_script", "_law_state", "_law_size", "_law_masks_here", "_law_more", "_law_wrong", "_law_first", "_law_second"] ["_law_script"] (defScope s_law) := ⟨rfl, rfl, rfl, by decide +kernel, rfl, by decide +kernel, by decide +kernel⟩
structure T0 (P : Program) (K : Frag) (mg : Str → Option Value) : Prop where
  n_abs : mg "abs" = none
  n_bool : mg "bool" = none
  n_int : mg "int" = none
  n_isinstance : mg "isinstance" = none
  n_len : mg "len" = none
  n_range : mg "range" = none
  n_tuple : mg "tuple" = none
  g_AND : mg "AND" = some (.ref (He.ga K "AND"))
  g_Answer : mg "Answer" = some (.ref (He.ga K "Answer"))
  g_BadAnswer : mg "BadAnswer" = some (.ref (He.ga K "BadAnswer"))
  g_BadBitmap : mg "BadBitmap" = some (.ref (He.ga K "BadBitmap"))
  g_Bitmap : mg "Bitmap" = some (.ref (He.ga K "Bitmap"))
  g_LESS : mg "LESS" = some (.ref (He.ga K "LESS"))
  g_OR : mg "OR" = some (.ref (He.ga K "OR"))
  g_SizesDiffer : mg "SizesDiffer" = some (.ref (He.ga K "SizesDiffer"))
  g_SliceError : mg "SliceError" = some (.ref (He.ga K "SliceError"))
  g__law_alone : mg "_law_alone" = some (.ref (He.ga K "_law_alone"))
  g__law_bitmap : mg "_law_bitmap" = some (.ref (He.ga K "_law_bitmap"))
  g__law_both : mg "_law_both" = some (.ref (He.ga K "_law_both"))
  g__law_draw : mg "_law_draw" = some (.ref (He.ga K "_law_draw"))
  g__law_good : mg "_law_good" = some (.ref (He.ga K "_law_good"))
  g__law_is : mg "_law_is" = some (.ref (He.ga K "_law_is"))
  g__law_is_number : mg "_law_is_number" = some (.ref (He.ga K "_law_is_number"))
  g__law_joined : mg "_law_joined" = some (.ref (He.ga K "_law_joined"))
  g__law_masks : mg "_law_masks" = some (.ref (He.ga K "_law_masks"))
  g__law_tried : mg "_law_tried" = some (.ref (He.ga K "_law_tried"))
  g_law : mg "law" = some (.ref (He.ga K "law"))
  g_next_end : mg "next_end" = some (.ref (He.ga K "next_end"))
  g_swept : mg "swept" = some (.ref (He.ga K "swept"))
  F__law_draw : ∃ fd, FunD K "_law_draw" "_law_draw" (defArgs s__law_draw) (defBody s__law_draw) (defScope s__law_draw) [] [] (He.fAd K ("_law_draw", none)) fd
  k__law_draw : PySem.W.keepIn K (.ref (He.fAd K ("_law_draw", none))) = true
  F__law_masks : ∃ fd, FunD K "_law_masks" "_law_masks" (defArgs s__law_masks) (defBody s__law_masks) (defScope s__law_masks) [] [] (He.fAd K ("_law_masks", none)) fd
  k__law_masks : PySem.W.keepIn K (.ref (He.fAd K ("_law_masks", none))) = true
  F_Bitmapdd_initdd : ∃ fd, FunD K "__init__" "Bitmap.__init__" (defArgs s_Bitmapdd_initdd) (defBody s_Bitmapdd_initdd) (defScope s_Bitmapdd_initdd) [V.ref (He.dflAt ("Bitmap", some "__init__") 0 K)] [] (He.fAd K ("Bitmap", some "__init__")) fd
  k_Bitmapdd_initdd : PySem.W.keepIn K (.ref (He.fAd K ("Bitmap", some "__init__"))) = true
  F__law_bitmap : ∃ fd, FunD K "_law_bitmap" "_law_bitmap" (defArgs s__law_bitmap) (defBody s__law_bitmap) (defScope s__law_bitmap) [] [] (He.fAd K ("_law_bitmap", none)) fd
  k__law_bitmap : PySem.W.keepIn K (.ref (He.fAd K ("_law_bitmap", none))) = true
  F_next_end : ∃ fd, FunD K "next_end" "next_end" (defArgs s_next_end) (defBody s_next_end) (defScope s_next_end) [] [] (He.fAd K ("next_end", none)) fd
  k_next_end : PySem.W.keepIn K (.ref (He.fAd K ("next_end", none))) = true
  F_swept : ∃ fd, FunD K "swept" "swept" (defArgs s_swept) (defBody s_swept) (defScope s_swept) [] [] (He.fAd K ("swept", none)) fd
  k_swept : PySem.W.keepIn K (.ref (He.fAd K ("swept", none))) = true
  F_Bitmap_paired : ∃ fd, FunD K "paired" "Bitmap.paired" (defArgs s_Bitmap_paired) (defBody s_Bitmap_paired) (defScope s_Bitmap_paired) [] [] (He.fAd K ("Bitmap", some "paired")) fd
  k_Bitmap_paired : PySem.W.keepIn K (.ref (He.fAd K ("Bitmap", some "paired"))) = true
  F_Bitmapdd_anddd : ∃ fd, FunD K "__and__" "Bitmap.__and__" (defArgs s_Bitmapdd_anddd) (defBody s_Bitmapdd_anddd) (defScope s_Bitmapdd_anddd) [] [] (He.fAd K ("Bitmap", some "__and__")) fd
  k_Bitmapdd_anddd : PySem.W.keepIn K (.ref (He.fAd K ("Bitmap", some "__and__"))) = true
  F_Bitmapdd_booldd : ∃ fd, FunD K "__bool__" "Bitmap.__bool__" (defArgs s_Bitmapdd_booldd) (defBody s_Bitmapdd_booldd) (defScope s_Bitmapdd_booldd) [] [] (He.fAd K ("Bitmap", some "__bool__")) fd
  k_Bitmapdd_booldd : PySem.W.keepIn K (.ref (He.fAd K ("Bitmap", some "__bool__"))) = true
  F_Bitmapdd_subdd : ∃ fd, FunD K "__sub__" "Bitmap.__sub__" (defArgs s_Bitmapdd_subdd) (defBody s_Bitmapdd_subdd) (defScope s_Bitmapdd_subdd) [] [] (He.fAd K ("Bitmap", some "__sub__")) fd
  k_Bitmapdd_subdd : PySem.W.keepIn K (.ref (He.fAd K ("Bitmap", some "__sub__"))) = true
  F_Answerdd_initdd : ∃ fd, FunD K "__init__" "Answer.__init__" (defArgs s_Answerdd_initdd) (defBody s_Answerdd_initdd) (defScope s_Answerdd_initdd) [] [] (He.fAd K ("Answer", some "__init__")) fd
  k_Answerdd_initdd : PySem.W.keepIn K (.ref (He.fAd K ("Answer", some "__init__"))) = true
  F__law_tried : ∃ fd, FunD K "_law_tried" "_law_tried" (defArgs s__law_tried) (defBody s__law_tried) (defScope s__law_tried) [] [] (He.fAd K ("_law_tried", none)) fd
  k__law_tried : PySem.W.keepIn K (.ref (He.fAd K ("_law_tried", none))) = true
  F__law_good : ∃ fd, FunD K "_law_good" "_law_good" (defArgs s__law_good) (defBody s__law_good) (defScope s__law_good) [] [] (He.fAd K ("_law_good", none)) fd
  k__law_good : PySem.W.keepIn K (.ref (He.fAd K ("_law_good", none))) = true
  F_Answer_unknown : ∃ fd, FunD K "unknown" "Answer.unknown" (defArgs s_Answer_unknown) (defBody s_Answer_unknown) (defScope s_Answer_unknown) [] [] (uA K "Answer" "unknown") fd
  k_Answer_unknown : PySem.W.keepIn K (.ref (uA K "Answer" "unknown")) = true
  F__law_is_number : ∃ fd, FunD K "_law_is_number" "_law_is_number" (defArgs s__law_is_number) (defBody s__law_is_number) (defScope s__law_is_number) [] [] (He.fAd K ("_law_is_number", none)) fd
  k__law_is_number : PySem.W.keepIn K (.ref (He.fAd K ("_law_is_number", none))) = true
  F_Bitmapdd_containsdd : ∃ fd, FunD K "__contains__" "Bitmap.__contains__" (defArgs s_Bitmapdd_containsdd) (defBody s_Bitmapdd_containsdd) (defScope s_Bitmapdd_containsdd) [] [] (He.fAd K ("Bitmap", some "__contains__")) fd
  k_Bitmapdd_containsdd : PySem.W.keepIn K (.ref (He.fAd K ("Bitmap", some "__contains__"))) = true
  F__law_is : ∃ fd, FunD K "_law_is" "_law_is" (defArgs s__law_is) (defBody s__law_is) (defScope s__law_is) [] [] (He.fAd K ("_law_is", none)) fd
  k__law_is : PySem.W.keepIn K (.ref (He.fAd K ("_law_is", none))) = true
  F_Answerdd_invertdd : ∃ fd, FunD K "__invert__" "Answer.__invert__" (defArgs s_Answerdd_invertdd) (defBody s_Answerdd_invertdd) (defScope s_Answerdd_invertdd) [] [] (He.fAd K ("Answer", some "__invert__")) fd
  k_Answerdd_invertdd : PySem.W.keepIn K (.ref (He.fAd K ("Answer", some "__invert__"))) = true
  F_Answer_surely : ∃ fd, FunD K "surely" "Answer.surely" (defArgs s_Answer_surely) (defBody s_Answer_surely) (defScope s_Answer_surely) [] [] (He.fAd K ("Answer", some "surely")) fd
  k_Answer_surely : PySem.W.keepIn K (.ref (He.fAd K ("Answer", some "surely"))) = true
  F_Bitmapdd_eqdd : ∃ fd, FunD K "__eq__" "Bitmap.__eq__" (defArgs s_Bitmapdd_eqdd) (defBody s_Bitmapdd_eqdd) (defScope s_Bitmapdd_eqdd) [] [] (He.fAd K ("Bitmap", some "__eq__")) fd
  k_Bitmapdd_eqdd : PySem.W.keepIn K (.ref (He.fAd K ("Bitmap", some "__eq__"))) = true
  F_Answerdd_eqdd : ∃ fd, FunD K "__eq__" "Answer.__eq__" (defArgs s_Answerdd_eqdd) (defBody s_Answerdd_eqdd) (defScope s_Answerdd_eqdd) [] [] (He.fAd K ("Answer", some "__eq__")) fd
  k_Answerdd_eqdd : PySem.W.keepIn K (.ref (He.fAd K ("Answer", some "__eq__"))) = true
  F_Bitmapdd_ordd : ∃ fd, FunD K "__or__" "Bitmap.__or__" (defArgs s_Bitmapdd_ordd) (defBody s_Bitmapdd_ordd) (defScope s_Bitmapdd_ordd) [] [] (He.fAd K ("Bitmap", some "__or__")) fd
  k_Bitmapdd_ordd : PySem.W.keepIn K (.ref (He.fAd K ("Bitmap", some "__or__"))) = true
  F_Answerdd_anddd : ∃ fd, FunD K "__and__" "Answer.__and__" (defArgs s_Answerdd_anddd) (defBody s_Answerdd_anddd) (defScope s_Answerdd_anddd) [] [] (He.fAd K ("Answer", some "__and__")) fd
  k_Answerdd_anddd : PySem.W.keepIn K (.ref (He.fAd K ("Answer", some "__and__"))) = true
  F_Answerdd_ordd : ∃ fd, FunD K "__or__" "Answer.__or__" (defArgs s_Answerdd_ordd) (defBody s_Answerdd_ordd) (defScope s_Answerdd_ordd) [] [] (He.fAd K ("Answer", some "__or__")) fd
  k_Answerdd_ordd : PySem.W.keepIn K (.ref (He.fAd K ("Answer", some "__or__"))) = true
  F__law_joined : ∃ fd, FunD K "_law_joined" "_law_joined" (defArgs s__law_joined) (defBody s__law_joined) (defScope s__law_joined) [] [] (He.fAd K ("_law_joined", none)) fd
  k__law_joined : PySem.W.keepIn K (.ref (He.fAd K ("_law_joined", none))) = true
  F__law_alone : ∃ fd, FunD K "_law_alone" "_law_alone" (defArgs s__law_alone) (defBody s__law_alone) (defScope s__law_alone) [] [] (He.fAd K ("_law_alone", none)) fd
  k__law_alone : PySem.W.keepIn K (.ref (He.fAd K ("_law_alone", none))) = true
  F__law_both : ∃ fd, FunD K "_law_both" "_law_both" (defArgs s__law_both) (defBody s__law_both) (defScope s__law_both) [] [] (He.fAd K ("_law_both", none)) fd
  k__law_both : PySem.W.keepIn K (.ref (He.fAd K ("_law_both", none))) = true
  F_law : ∃ fd, FunD K "law" "law" (defArgs s_law) (defBody s_law) (defScope s_law) [] [] (He.fAd K ("law", none)) fd
  k_law : PySem.W.keepIn K (.ref (He.fAd K ("law", none))) = true
  C_Bitmap : CF K "Bitmap" ["ends", "size"]
  D_Answer : DF K "Answer" [] ["rows", "yes", "no"]
  K_Answer : Mk K (He.ga K "Answer") (He.fAd K ("Answer", some "__init__"))
  K_Bitmap : Mk K (He.ga K "Bitmap") (He.fAd K ("Bitmap", some "__init__"))
  M_Answer_surely : Meth K (He.ga K "Answer") "surely" (He.fAd K ("Answer", some "surely"))
  M_Answerdd_anddd : Meth K (He.ga K "Answer") "__and__" (He.fAd K ("Answer", some "__and__"))
  M_Answerdd_eqdd : Meth K (He.ga K "Answer") "__eq__" (He.fAd K ("Answer", some "__eq__"))
  M_Answerdd_invertdd : Meth K (He.ga K "Answer") "__invert__" (He.fAd K ("Answer", some "__invert__"))
  M_Answerdd_ordd : Meth K (He.ga K "Answer") "__or__" (He.fAd K ("Answer", some "__or__"))
  M_Bitmap_paired : Meth K (He.ga K "Bitmap") "paired" (He.fAd K ("Bitmap", some "paired"))
  M_Bitmapdd_anddd : Meth K (He.ga K "Bitmap") "__and__" (He.fAd K ("Bitmap", some "__and__"))
  M_Bitmapdd_booldd : Meth K (He.ga K "Bitmap") "__bool__" (He.fAd K ("Bitmap", some "__bool__"))
  M_Bitmapdd_containsdd : Meth K (He.ga K "Bitmap") "__contains__" (He.fAd K ("Bitmap", some "__contains__"))
  M_Bitmapdd_eqdd : Meth K (He.ga K "Bitmap") "__eq__" (He.fAd K ("Bitmap", some "__eq__"))
  M_Bitmapdd_ordd : Meth K (He.ga K "Bitmap") "__or__" (He.fAd K ("Bitmap", some "__or__"))
  M_Bitmapdd_subdd : Meth K (He.ga K "Bitmap") "__sub__" (He.fAd K ("Bitmap", some "__sub__"))
  P_Answer_unknown : PropF K "Answer" "unknown" (uA K "Answer" "unknown")
  R_BadAnswer : RsF K "BadAnswer"
  R_BadBitmap : RsF K "BadBitmap"
  R_SizesDiffer : RsF K "SizesDiffer"
  U_AND : TupG K "AND" [V.int 0, V.int 0, V.int 0, V.int 1]
  U_LESS : TupG K "LESS" [V.int 0, V.int 0, V.int 1, V.int 0]
  U_OR : TupG K "OR" [V.int 0, V.int 1, V.int 1, V.int 1]
  X_BadAnswer : ExF K "BadAnswer" ["SliceError"]
  X_BadBitmap : ExF K "BadBitmap" ["SliceError"]
  X_SizesDiffer : ExF K "SizesDiffer" ["SliceError"]
  X_SliceError : ExF K "SliceError" []
section
variable {P : Program} {w : World} {K : Frag} {mg : Str → Option Value} {base : Heap}
theorem ok__law_draw (T : T0 P K mg) : FR P w K mg base 1 (He.fAd K ("_law_draw", none)) (sp__law_draw K) := by
  obtain ⟨fd, F⟩ := T.F__law_draw
  refine mk_fn F sc__law_draw (fun vs H Q E h => by
    revert h; intro h; (repeat (first | (obtain ⟨rfl, _⟩ := h; exact rfl) | obtain ⟨_, h⟩ := h))) (fun _ _ _ _ _ _ us hl => match us, hl with | [_, _, _], _ => rfl) (t := t__law_draw K) (fun cdv A outer s H E hr => ?_) (fun vs H Q E h => pure__law_draw vs H Q E h)
  exact pss_cons (ps_if (pt_cmp (o_eq hr.units) (pe_ix ix_any (pv 1) (pe_int) (fun _ _ => rfl)) (pe_int) (nomark _)) (pss_cons (ps_set (i := 3) sc__law_draw.nd rfl (Or.inl rfl) (pe_ix ix_any (pv 1) (pe_int) (fun _ _ => rfl)))
    (pss_cons (ps_asg (pe_op o_add (pv 3) (pe_int)) (pg_sub (pv 1) (pe_int) s_list))
    (pss_cons (ps_if (pt_cmp o_ge (pv 3) (pe_cb c_len T.n_len (by decide +kernel) (pa_cons (pv 0) (pa_nil))) (nomark _)) (pss_one (ps_ret (pe_int))) (pss_nil))
    (pss_cons (ps_asg (pe_cb c_abs T.n_abs (by decide +kernel) (pa_cons (pe_ix ix_any (pv 0) (pv 3) (fun _ _ => rfl)) (pa_nil))) (pg_sub (pv 1) (pe_int) s_list))
    (pss_cons (ps_asg (pe_ct c_int T.n_int (by decide +kernel) (pa_cons (pe_cmp o_lt (pe_ix ix_any (pv 0) (pv 3) (fun _ _ => rfl)) (pe_int) (nomark _)) (pa_nil))) (pg_sub (pv 1) (pe_int) s_list))
    (pss_cons (ps_asg (pe_int) (pg_sub (pv 1) (pe_int) s_list))
    (pss_one (ps_if (pt_cmp o_ge (pe_ix ix_any (pv 1) (pe_int) (fun _ _ => rfl)) (pe_op o_pow (pe_int) (pe_int)) (nomark _)) (pss_cons (ps_asg (pe_int) (pg_sub (pv 1) (pe_int) s_list))
    (pss_one (ps_asg (pe_int) (pg_sub (pv 1) (pe_int) s_list)))) (pss_nil))))))))) (pss_nil))
    (pss_stop (pss_cons (ps_asg (pe_op o_sub (pe_ix ix_any (pv 1) (pe_int) (fun _ _ => rfl)) (pe_int)) (pg_sub (pv 1) (pe_int) s_list))
    (pss_stop (pss_cons (ps_set (i := 4) sc__law_draw.nd rfl (Or.inl rfl) (pe_ct c_int T.n_int (by decide +kernel) (pa_cons (pe_ix ix_any (pv 1) (pe_int) (fun _ _ => rfl)) (pa_nil))))
    (pss_stop (pss_cons (ps_if (pt_cmp (o_eq hr.units) (pe_ix ix_any (pv 1) (pe_int) (fun _ _ => rfl)) (pe_int) (nomark _)) (pss_cons (ps_asg (pe_op o_fdiv (pv 4) (pe_int)) (pg_sub (pv 1) (pe_int) s_list))
    (pss_cons (ps_if (pt_cmp (o_eq hr.units) (pe_ix ix_any (pv 1) (pe_int) (fun _ _ => rfl)) (pe_int) (nomark _)) (pss_one (ps_asg (pe_int) (pg_sub (pv 1) (pe_int) s_list))) (pss_nil))
    (pss_cons (ps_set (i := 5) sc__law_draw.nd rfl (Or.inl rfl) (pe_op o_mod (pe_ct c_int T.n_int (by decide +kernel) (pa_cons (pv 4) (pa_nil))) (pe_int)))
    (pss_one (ps_ret (pe_op o_mod (pe_ct c_int T.n_int (by decide +kernel) (pa_cons (pv 5) (pa_nil))) (pv 2))))))) (pss_nil))
    (pss_stop (pss_cons (ps_set (i := 6) sc__law_draw.nd rfl (Or.inl rfl) (pe_op o_mod (pe_ct c_int T.n_int (by decide +kernel) (pa_cons (pe_op o_add (pe_op o_mulA (pv 4) (pe_op o_add (pe_op o_add (pe_int) (pe_op o_mulA (pe_int) (pe_ix ix_any (pv 1) (pe_int) (fun _ _ => rfl)))) (pe_op o_mulA (pe_int) (pe_ix ix_any (pv 1) (pe_int) (fun _ _ => rfl))))) (pe_op o_mulA (pe_int) (pe_ix ix_any (pv 1) (pe_int) (fun _ _ => rfl)))) (pa_nil))) (pe_int)))
    (pss_stop (pss_cons (ps_set (i := 6) sc__law_draw.nd rfl (Or.inl rfl) (pe_op o_mod (pe_ct c_int T.n_int (by decide +kernel) (pa_cons (pe_op o_add (pe_op o_mulA (pv 6) (pv 6)) (pv 4)) (pa_nil))) (pe_int)))
    (pss_stop (pss_cons (ps_set (i := 6) sc__law_draw.nd rfl (Or.inl rfl) (pe_op o_mod (pe_ct c_int T.n_int (by decide +kernel) (pa_cons (pe_op o_mulA (pv 6) (pv 6)) (pa_nil))) (pe_int)))
    (pss_stop (pss_one (ps_ret (pe_op o_mod (pe_ct c_int T.n_int (by decide +kernel) (pa_cons (pv 6) (pa_nil))) (pv 2)))))))))))))))))
theorem ok__law_masks (T : T0 P K mg) : FR P w K mg base 2 (He.fAd K ("_law_masks", none)) (sp__law_masks K) := by
  obtain ⟨fd, F⟩ := T.F__law_masks
  have G__law_draw := ok__law_draw (P := P) (w := w) (base := base) T
  refine mk_fn F sc__law_masks (fun vs H Q E h => by
    revert h; intro h; (repeat (first | (obtain ⟨rfl, _⟩ := h; exact rfl) | obtain ⟨_, h⟩ := h))) (fun _ _ _ _ _ _ us hl => match us, hl with | [_, _, _], _ => rfl) (t := t__law_masks K) (fun cdv A outer s H E hr => ?_) (fun vs H Q E h => pure__law_masks vs H Q E h)
  exact pss_cons (ps_setLc (i := 3) (own := [("_law_k", 4)]) rfl sc__law_masks.nd rfl rfl (sw_true rfl rfl rfl (by decide +kernel)) (pi_rng (by rfl) T.n_range (pa_cons (pe_int) (pa_nil))) (blkOk_by (own := [("_law_k", 4)]) (N := ["_law_script", "_law_state", "_law_size", "_law_masks_here", "_law_k"]) (sc := defScope s__law_masks) (by decide +kernel)) (fun _ _ _ _ _ => pg_name (i := 4) sc__law_masks.nd rfl (Or.inl rfl)) (fun _ _ _ _ _ => pts_nil) (fun _ _ _ _ _ => pe_call (G__law_draw) (hr.mono (by decide)) T.g__law_draw T.k__law_draw passL0 (pa_cons (pv 0) (pa_cons (pv 1) (pa_cons (pe_op o_shl (pe_int) (pv 2)) (pa_nil))))))
    (pss_stop (pss_cons (ps_if (pt_cmp (o_ne hr.units) (pe_call (G__law_draw) (hr.mono (by decide)) T.g__law_draw T.k__law_draw passD (pa_cons (pv 0) (pa_cons (pv 1) (pa_cons (pe_int) (pa_nil))))) (pe_int) (nomark _)) (pss_cons (ps_asg (pe_op o_and (pe_ix ix_any (pv 3) (pe_int) (fun _ _ => rfl)) (pe_ix ix_any (pv 3) (pe_int) (fun _ _ => rfl))) (pg_sub (pv 3) (pe_int) s_list))
    (pss_one (ps_asg (pe_op o_and (pe_ix ix_any (pv 3) (pe_int) (fun _ _ => rfl)) (pe_op o_sub (pe_ix ix_any (pv 3) (pe_int) (fun _ _ => rfl)) (pe_ix ix_any (pv 3) (pe_int) (fun _ _ => rfl)))) (pg_sub (pv 3) (pe_int) s_list)))) (pss_nil))
    (pss_stop (pss_one (ps_ret (pv 3))))))
theorem okd_Bitmapdd_initdd (T : T0 P K mg) {fd : FuncData} (F : FunD K "__init__" "Bitmap.__init__" (defArgs s_Bitmapdd_initdd) (defBody s_Bitmapdd_initdd) (defScope s_Bitmapdd_initdd) [V.ref (He.dflAt ("Bitmap", some "__init__") 0 K)] [] (He.fAd K ("Bitmap", some "__init__")) fd) {ex : List V} (hb : ∃ ds, Vals ex ds ∧ Binds K fd ["self", "size", "ends"] ds) : FR P w K mg base 1 (He.fAd K ("Bitmap", some "__init__")) (spD (sp_Bitmapdd_initdd K) ex) := by
  refine mk_fnD F sc_Bitmapdd_initdd (fun vs H Q E h => by
    revert h; intro h; (repeat (first | (obtain ⟨rfl, _⟩ := h; exact rfl) | obtain ⟨_, h⟩ := h))) hb (t := t_Bitmapdd_initdd K) (fun cdv A outer s H E hr => ?_) (fun vs H Q E h => pure_Bitmapdd_initdd vs H Q E h)
  exact pss_cons (ps_set (i := 3) sc_Bitmapdd_initdd.nd rfl (Or.inl rfl) (pe_un u_neg (pe_int)))
    (pss_stop (pss_cons (ps_for ownD rfl (pi_seq (pv 2)) (pg_name (i := 4) sc_Bitmapdd_initdd.nd rfl (Or.inl rfl)) (pss_cons (ps_if (pt_not (pt_chain o_lt o_lt (pv 3) (pv 4) (pv 1))) (pss_one (ps_giv T.X_BadBitmap (ps_rs takesD T.R_BadBitmap T.g_BadBitmap))) (pss_nil))
    (pss_stop (pss_one (ps_set (i := 3) sc_Bitmapdd_initdd.nd rfl (Or.inl rfl) (pv 4))))))
    (pss_stop (pss_cons (ps_if (pt_cmp o_lt (pv 1) (pe_int) (nomark _)) (pss_one (ps_giv T.X_BadBitmap (ps_rs takesD T.R_BadBitmap T.g_BadBitmap))) (pss_nil))
    (pss_stop (pss_cons (ps_sto (pv 1) (pv 0))
    (pss_stop (pss_one (ps_sto (pe_ct c_tuple T.n_tuple (by decide +kernel) (pa_cons (pv 2) (pa_nil))) (pv 0))))))))))
theorem ok_Bitmapdd_initdd (T : T0 P K mg) : FR P w K mg base 1 (He.fAd K ("Bitmap", some "__init__")) (sp_Bitmapdd_initdd K) := by
  obtain ⟨fd, F⟩ := T.F_Bitmapdd_initdd
  have hb := FunD.binds1 (ps := ["self", "size", "ends"]) F 3 1 (List.cons_ne_nil _ _) rfl fun T kV doc pm an cdv ct us its l1 l2 => match us, its, l1, l2 with | [_, _, _], [_], _, _ => ⟨_, rfl, rfl⟩
  exact spD_nil (okd_Bitmapdd_initdd (P := P) (w := w) (base := base) T F hb)
theorem ok__law_bitmap (T : T0 P K mg) : FR P w K mg base 3 (He.fAd K ("_law_bitmap", none)) (sp__law_bitmap K) := by
  obtain ⟨fd, F⟩ := T.F__law_bitmap
  have G_Bitmapdd_initdd := ok_Bitmapdd_initdd (P := P) (w := w) (base := base) T
  refine mk_fn F sc__law_bitmap (fun vs H Q E h => by
    revert h; intro h; (repeat (first | (obtain ⟨rfl, _⟩ := h; exact rfl) | obtain ⟨_, h⟩ := h))) (fun _ _ _ _ _ _ us hl => match us, hl with | [_, _], _ => rfl) (t := t__law_bitmap K) (fun cdv A outer s H E hr => ?_) (fun vs H Q E h => pure__law_bitmap vs H Q E h)
  exact pss_cons (ps_setLc (i := 2) (own := [("_law_row", 3)]) rfl sc__law_bitmap.nd rfl rfl (sw_true rfl rfl rfl (by decide +kernel)) (pi_rng (by rfl) T.n_range (pa_cons (pv 1) (pa_nil))) (blkOk_by (own := [("_law_row", 3)]) (N := ["_law_mask", "_law_size", "_law_ends", "_law_row"]) (sc := defScope s__law_bitmap) (by decide +kernel)) (fun _ _ _ _ _ => pg_name (i := 3) sc__law_bitmap.nd rfl (Or.inl rfl)) (fun _ _ _ _ _ => pts_one (pt_cmp (o_ne hr.units) (pe_op o_and (pe_op o_shr (pv 0) (pv 3)) (pe_int)) (pe_op o_and (pe_op o_shr (pe_op o_mulA (pe_int) (pv 0)) (pv 3)) (pe_int)) (nomark _))) (fun _ _ _ _ _ => pv 3))
    (pss_stop (pss_one (ps_ret (pe_giv T.C_Bitmap (pe_mk T.K_Bitmap G_Bitmapdd_initdd (hr.mono (by decide)) T.g_Bitmap passD (pa_cons (pv 1) (pa_cons (pv 2) (pa_nil))))))))
theorem ok_next_end (T : T0 P K mg) : FR P w K mg base 1 (He.fAd K ("next_end", none)) (sp_next_end K) := by
  obtain ⟨fd, F⟩ := T.F_next_end
  refine mk_fn F sc_next_end (fun vs H Q E h => by
    revert h; intro h; (repeat (first | (obtain ⟨rfl, _⟩ := h; exact rfl) | obtain ⟨_, h⟩ := h))) (fun _ _ _ _ _ _ us hl => match us, hl with | [_, _, _, _], _ => rfl) (t := t_next_end K) (fun cdv A outer s H E hr => ?_) (fun vs H Q E h => pure_next_end vs H Q E h)
  exact pss_cons (ps_if (PW.pt (pw_or (pt_cmp (o_eq hr.units) (pv 3) (pe_cb c_len T.n_len (by decide +kernel) (pa_cons (pv 2) (pa_nil))) (nomark _)) (pw_or1 (PW.pt (pw_and (pt_cmp o_lt (pv 1) (pe_cb c_len T.n_len (by decide +kernel) (pa_cons (pv 0) (pa_nil))) (nomark _)) (pw_and1 (pt_cmp o_lt (pe_ix ix_any (pv 0) (pv 1) (fun _ _ => rfl)) (pe_ix ix_any (pv 2) (pv 3) (fun _ _ => rfl)) (nomark _)))))))) (pss_one (ps_ret (pe_ix ix_any (pv 0) (pv 1) (fun _ _ => rfl)))) (pss_nil))
    (pss_stop (pss_one (ps_ret (pe_ix ix_any (pv 2) (pv 3) (fun _ _ => rfl)))))
theorem ok_swept (T : T0 P K mg) : FR P w K mg base 2 (He.fAd K ("swept", none)) (sp_swept K) := by
  obtain ⟨fd, F⟩ := T.F_swept
  have G_next_end := ok_next_end (P := P) (w := w) (base := base) T
  refine mk_fn F sc_swept (fun vs H Q E h => by
    revert h; intro h; (repeat (first | (obtain ⟨rfl, _⟩ := h; exact rfl) | obtain ⟨_, h⟩ := h))) (fun _ _ _ _ _ _ us hl => match us, hl with | [_, _, _], _ => rfl) (t := t_swept K) (fun cdv A outer s H E hr => ?_) (fun vs H Q E h => pure_swept vs H Q E h)
  exact pss_cons (ps_set (i := 3) sc_swept.nd rfl (Or.inl rfl) (pe_lst (pa_nil)))
    (pss_stop (pss_cons (ps_asg2 (pe_int) (pg_name (i := 4) sc_swept.nd rfl (Or.inl rfl)) (pg_name (i := 5) sc_swept.nd rfl (Or.inl rfl)))
    (pss_stop (pss_cons (ps_asg3 (pe_int) (pg_name (i := 6) sc_swept.nd rfl (Or.inl rfl)) (pg_name (i := 7) sc_swept.nd rfl (Or.inl rfl)) (pg_name (i := 8) sc_swept.nd rfl (Or.inl rfl)))
    (pss_stop (pss_cons (ps_while ownD (PW.pt (pw_or (pt_cmp o_lt (pv 4) (pe_cb c_len T.n_len (by decide +kernel) (pa_cons (pv 0) (pa_nil))) (nomark _)) (pw_or1 (pt_cmp o_lt (pv 5) (pe_cb c_len T.n_len (by decide +kernel) (pa_cons (pv 1) (pa_nil))) (nomark _))))) (pss_cons (ps_set (i := 9) sc_swept.nd rfl (Or.inl rfl) (pe_call (G_next_end) (hr.mono (by decide)) T.g_next_end T.k_next_end passD (pa_cons (pv 0) (pa_cons (pv 4) (pa_cons (pv 1) (pa_cons (pv 5) (pa_nil)))))))
    (pss_stop (pss_cons (ps_if (PW.pt (pw_and (pt_cmp o_lt (pv 4) (pe_cb c_len T.n_len (by decide +kernel) (pa_cons (pv 0) (pa_nil))) (nomark _)) (pw_and1 (pt_cmp (o_eq hr.units) (pe_ix ix_any (pv 0) (pv 4) (fun _ _ => rfl)) (pv 9) (nomark _))))) (pss_cons (ps_set (i := 6) sc_swept.nd rfl (Or.inl rfl) (pe_op o_sub (pe_int) (pv 6)))
    (pss_one (ps_set (i := 4) sc_swept.nd rfl (Or.inl rfl) (pe_op o_add (pv 4) (pe_int))))) (pss_nil))
    (pss_stop (pss_cons (ps_if (PW.pt (pw_and (pt_cmp o_lt (pv 5) (pe_cb c_len T.n_len (by decide +kernel) (pa_cons (pv 1) (pa_nil))) (nomark _)) (pw_and1 (pt_cmp (o_eq hr.units) (pe_ix ix_any (pv 1) (pv 5) (fun _ _ => rfl)) (pv 9) (nomark _))))) (pss_cons (ps_set (i := 7) sc_swept.nd rfl (Or.inl rfl) (pe_op o_sub (pe_int) (pv 7)))
    (pss_one (ps_set (i := 5) sc_swept.nd rfl (Or.inl rfl) (pe_op o_add (pv 5) (pe_int))))) (pss_nil))
    (pss_stop (pss_one (ps_if (pt_cmp (o_ne hr.units) (pe_ix ix_any (pv 2) (pe_op o_add (pe_op o_mulA (pe_int) (pv 6)) (pv 7)) (fun _ _ => rfl)) (pv 8) (nomark _)) (pss_cons (ps_set (i := 8) sc_swept.nd rfl (Or.inl rfl) (pe_op o_sub (pe_int) (pv 8)))
    (pss_one (ps_expr (pe_ml PySem.F.slot_list_append PySem.F.type_list_append m_app (pv 3) (pa_cons (pv 9) (pa_nil)))))) (pss_nil))))))))))
    (pss_stop (pss_one (ps_ret (pe_ct c_tuple T.n_tuple (by decide +kernel) (pa_cons (pv 3) (pa_nil))))))))))))
theorem ok_Bitmap_paired (T : T0 P K mg) : FR P w K mg base 3 (He.fAd K ("Bitmap", some "paired")) (sp_Bitmap_paired K) := by
  obtain ⟨fd, F⟩ := T.F_Bitmap_paired
  have G_Bitmapdd_initdd := ok_Bitmapdd_initdd (P := P) (w := w) (base := base) T
  have G_swept := ok_swept (P := P) (w := w) (base := base) T
  refine mk_fn F sc_Bitmap_paired (fun vs H Q E h => by
    revert h; intro h; (repeat (first | (obtain ⟨rfl, _⟩ := h; exact rfl) | obtain ⟨_, h⟩ := h))) (fun _ _ _ _ _ _ us hl => match us, hl with | [_, _, _], _ => rfl) (t := t_Bitmap_paired K) (fun cdv A outer s H E hr => ?_) (fun vs H Q E h => pure_Bitmap_paired vs H Q E h)
  exact pss_cons (ps_if (pt_cmp (o_ne hr.units) (pe_at (pv 0)) (pe_at (pv 1)) (nomark _)) (pss_one (ps_giv T.X_SizesDiffer (ps_rs takesD T.R_SizesDiffer T.g_SizesDiffer))) (pss_nil))
    (pss_stop (pss_one (ps_ret (pe_giv T.C_Bitmap (pe_mk T.K_Bitmap G_Bitmapdd_initdd (hr.mono (by decide)) T.g_Bitmap passD (pa_cons (pe_at (pv 0)) (pa_cons (pe_call (G_swept) (hr.mono (by decide)) T.g_swept T.k_swept passD (pa_cons (pe_at (pv 0)) (pa_cons (pe_at (pv 1)) (pa_cons (pv 2) (pa_nil))))) (pa_nil))))))))
theorem ok_Bitmapdd_anddd (T : T0 P K mg) : FR P w K mg base 4 (He.fAd K ("Bitmap", some "__and__")) (sp_Bitmapdd_anddd K) := by
  obtain ⟨fd, F⟩ := T.F_Bitmapdd_anddd
  have G_Bitmap_paired := ok_Bitmap_paired (P := P) (w := w) (base := base) T
  refine mk_fn F sc_Bitmapdd_anddd (fun vs H Q E h => by
    revert h; intro h; (repeat (first | (obtain ⟨rfl, _⟩ := h; exact rfl) | obtain ⟨_, h⟩ := h))) (fun _ _ _ _ _ _ us hl => match us, hl with | [_, _], _ => rfl) (t := t_Bitmapdd_anddd K) (fun cdv A outer s H E hr => ?_) (fun vs H Q E h => pure_Bitmapdd_anddd vs H Q E h)
  exact pss_one (ps_ret (pe_meth T.C_Bitmap.sc T.M_Bitmap_paired G_Bitmap_paired (hr.mono (by decide)) passD (pv 0) (pa_cons (pv 1) (pa_cons (pe_giv T.U_AND (pe_glob (by rfl) T.g_AND rfl)) (pa_nil)))))
theorem ok_Bitmapdd_booldd (T : T0 P K mg) : FR P w K mg base 1 (He.fAd K ("Bitmap", some "__bool__")) (sp_Bitmapdd_booldd K) := by
  obtain ⟨fd, F⟩ := T.F_Bitmapdd_booldd
  refine mk_fn F sc_Bitmapdd_booldd (fun vs H Q E h => by
    revert h; intro h; (repeat (first | (obtain ⟨rfl, _⟩ := h; exact rfl) | obtain ⟨_, h⟩ := h))) (fun _ _ _ _ _ _ us hl => match us, hl with | [_], _ => rfl) (t := t_Bitmapdd_booldd K) (fun cdv A outer s H E hr => ?_) (fun vs H Q E h => pure_Bitmapdd_booldd vs H Q E h)
  exact pss_one (ps_ret (pe_ct c_bool T.n_bool (by decide +kernel) (pa_cons (pe_at (pv 0)) (pa_nil))))
theorem ok_Bitmapdd_subdd (T : T0 P K mg) : FR P w K mg base 4 (He.fAd K ("Bitmap", some "__sub__")) (sp_Bitmapdd_subdd K) := by
  obtain ⟨fd, F⟩ := T.F_Bitmapdd_subdd
  have G_Bitmap_paired := ok_Bitmap_paired (P := P) (w := w) (base := base) T
  refine mk_fn F sc_Bitmapdd_subdd (fun vs H Q E h => by
    revert h; intro h; (repeat (first | (obtain ⟨rfl, _⟩ := h; exact rfl) | obtain ⟨_, h⟩ := h))) (fun _ _ _ _ _ _ us hl => match us, hl with | [_, _], _ => rfl) (t := t_Bitmapdd_subdd K) (fun cdv A outer s H E hr => ?_) (fun vs H Q E h => pure_Bitmapdd_subdd vs H Q E h)
  exact pss_one (ps_ret (pe_meth T.C_Bitmap.sc T.M_Bitmap_paired G_Bitmap_paired (hr.mono (by decide)) passD (pv 0) (pa_cons (pv 1) (pa_cons (pe_giv T.U_LESS (pe_glob (by rfl) T.g_LESS rfl)) (pa_nil)))))
theorem ok_Answerdd_initdd (T : T0 P K mg) : FR P w K mg base 5 (He.fAd K ("Answer", some "__init__")) (sp_Answerdd_initdd K) := by
  obtain ⟨fd, F⟩ := T.F_Answerdd_initdd
  have G_Bitmapdd_anddd := ok_Bitmapdd_anddd (P := P) (w := w) (base := base) T
  have G_Bitmapdd_booldd := ok_Bitmapdd_booldd (P := P) (w := w) (base := base) T
  have G_Bitmapdd_subdd := ok_Bitmapdd_subdd (P := P) (w := w) (base := base) T
  refine mk_fn F sc_Answerdd_initdd (fun vs H Q E h => by
    revert h; intro h; (repeat (first | (obtain ⟨rfl, _⟩ := h; exact rfl) | obtain ⟨_, h⟩ := h))) (fun _ _ _ _ _ _ us hl => match us, hl with | [_, _, _, _], _ => rfl) (t := t_Answerdd_initdd K) (fun cdv A outer s H E hr => ?_) (fun vs H Q E h => pure_Answerdd_initdd vs H Q E h)
  exact pss_cons (ps_if (PW.pt (pw_or (pt_cmp (o_ne hr.units) (pe_at (pv 2)) (pe_at (pv 1)) (nomark _)) (pw_or1 (pt_cmp (o_ne hr.units) (pe_at (pv 3)) (pe_at (pv 1)) (nomark _))))) (pss_one (ps_giv T.X_SizesDiffer (ps_rs takesD T.R_SizesDiffer T.g_SizesDiffer))) (pss_nil))
    (pss_stop (pss_cons (ps_if (PW.pt (pw_or (pt_ofO T.M_Bitmapdd_booldd G_Bitmapdd_booldd (hr.mono (by decide)) passD (pe_op (op_ownB T.C_Bitmap.mf T.M_Bitmapdd_anddd G_Bitmapdd_anddd (hr.mono (by decide)) passD o_and) (pv 2) (pv 3))) (pw_or (pt_ofO T.M_Bitmapdd_booldd G_Bitmapdd_booldd (hr.mono (by decide)) passD (pe_op (op_ownB T.C_Bitmap.mf T.M_Bitmapdd_subdd G_Bitmapdd_subdd (hr.mono (by decide)) passD o_sub) (pv 2) (pv 1))) (pw_or1 (pt_ofO T.M_Bitmapdd_booldd G_Bitmapdd_booldd (hr.mono (by decide)) passD (pe_op (op_ownB T.C_Bitmap.mf T.M_Bitmapdd_subdd G_Bitmapdd_subdd (hr.mono (by decide)) passD o_sub) (pv 3) (pv 1))))))) (pss_one (ps_giv T.X_BadAnswer (ps_rs takesD T.R_BadAnswer T.g_BadAnswer))) (pss_nil))
    (pss_stop (pss_cons (ps_sto (pv 1) (pv 0))
    (pss_stop (pss_cons (ps_sto (pv 2) (pv 0))
    (pss_stop (pss_one (ps_sto (pv 3) (pv 0))))))))))
theorem ok__law_tried (T : T0 P K mg) : FR P w K mg base 7 (He.fAd K ("_law_tried", none)) (sp__law_tried K) := by
  obtain ⟨fd, F⟩ := T.F__law_tried
  have G_Answerdd_initdd := ok_Answerdd_initdd (P := P) (w := w) (base := base) T
  have G__law_bitmap := ok__law_bitmap (P := P) (w := w) (base := base) T
  refine mk_fn F sc__law_tried (fun vs H Q E h => by
    revert h; intro h; (repeat (first | (obtain ⟨rfl, _⟩ := h; exact rfl) | obtain ⟨_, h⟩ := h))) (fun _ _ _ _ _ _ us hl => match us, hl with | [_, _, _], _ => rfl) (t := t__law_tried K) (fun cdv A outer s H E hr => ?_) (fun vs H Q E h => pure__law_tried vs H Q E h)
  exact pss_cons (ps_set (i := 3) sc__law_tried.nd rfl (Or.inr rfl) (pe_lst (pa_cons (pv 0) (pa_cons (pv 0) (pa_cons (pv 0) (pa_nil))))))
    (pss_stop (pss_cons (ps_if (pt_cmp o_gt (pv 2) (pe_int) (nomark _)) (pss_one (ps_asg (pe_op o_add (pv 0) (pe_int)) (pg_sub (pv 3) (pe_op o_sub (pv 2) (pe_int)) s_list))) (pss_nil))
    (pss_stop (pss_cons (ps_setLc (i := 4) (own := [("_law_k", 8)]) rfl sc__law_tried.nd rfl rfl (sw_true rfl rfl rfl (by decide +kernel)) (pi_rng (by rfl) T.n_range (pa_cons (pe_int) (pa_nil))) (blkOk_by (own := [("_law_k", 8)]) (N := ["_law_size", "_law_masks_here", "_law_wrong", "_law_sizes", "_law_parts", "_law_kind", "_law_answer", "e", "_law_k"]) (sc := defScope s__law_tried) (by decide +kernel)) (fun _ _ _ _ _ => pg_name (i := 8) sc__law_tried.nd rfl (Or.inl rfl)) (fun _ _ _ _ _ => pts_nil) (fun _ _ _ _ _ => pe_call (G__law_bitmap) (hr.mono (by decide)) T.g__law_bitmap T.k__law_bitmap passL0 (pa_cons (pe_ix ix_any (pv 1) (pv 8) (fun _ _ => rfl)) (pa_cons (pe_ix ix_any (pv 3) (pv 8) (fun _ _ => rfl)) (pa_nil)))))
    (pss_stop (pss_cons (ps_set (i := 5) sc__law_tried.nd rfl (Or.inl rfl) (pe_str))
    (pss_stop (pss_cons (ps_set (i := 6) sc__law_tried.nd rfl (Or.inl rfl) (pe_non))
    (pss_stop (pss_cons (ps_giv T.X_SizesDiffer (ps_giv T.X_BadAnswer (ps_try2n (i := 7) (j := 7) sc__law_tried.nd T.g_SizesDiffer T.g_BadAnswer takesD (fun W1 pn1 xe1 tk1 po1 => pss_one (ps_set (i := 6) sc__law_tried.nd rfl (Or.inl rfl) (pe_giv T.D_Answer (pe_mk T.K_Answer G_Answerdd_initdd (hr.mono (by decide)) T.g_Answer (passAt tk1) (pa_cons (pe_ix ix_any (pv 4) (pe_int) (fun _ _ => rfl)) (pa_cons (pe_ix ix_any (pv 4) (pe_int) (fun _ _ => rfl)) (pa_cons (pe_ix ix_any (pv 4) (pe_int) (fun _ _ => rfl)) (pa_nil)))))))) (fun a1 oe1 cls1 d1 pn1 hz1 hf1 => pss_cons (ps_set (i := 5) sc__law_tried.nd rfl (Or.inl rfl) (pe_str))
    (pss_one (ps_if (PW.pt (pw_or (pt_not (pt_of (pe_giv T.X_SliceError.mf (pe_cb (c_ise hz1 hf1) T.n_isinstance (by decide +kernel) (pa_cons (pv 7) (pa_cons (pe_glob (by rfl) T.g_SliceError rfl) (pa_nil))))))) (pw_or1 (pt_of (pe_giv T.X_BadAnswer.mf (pe_cb (c_ise hz1 hf1) T.n_isinstance (by decide +kernel) (pa_cons (pv 7) (pa_cons (pe_glob (by rfl) T.g_BadAnswer rfl) (pa_nil))))))))) (pss_one (ps_set (i := 5) sc__law_tried.nd rfl (Or.inl rfl) (pe_str))) (pss_nil)))) (fun a1 oe1 cls1 d1 pn1 hz1 hf1 => pss_cons (ps_set (i := 5) sc__law_tried.nd rfl (Or.inl rfl) (pe_str))
    (pss_one (ps_if (pt_not (pt_of (pe_giv T.X_SliceError.mf (pe_cb (c_ise hz1 hf1) T.n_isinstance (by decide +kernel) (pa_cons (pv 7) (pa_cons (pe_glob (by rfl) T.g_SliceError rfl) (pa_nil))))))) (pss_one (ps_set (i := 5) sc__law_tried.nd rfl (Or.inl rfl) (pe_str))) (pss_nil)))))))
    (pss_stop (pss_one (ps_ret (pe_tup (pa_cons (pv 5) (pa_cons (pv 6) (pa_nil)))))))))))))))))
theorem ok__law_good (T : T0 P K mg) : FR P w K mg base 1 (He.fAd K ("_law_good", none)) (sp__law_good K) := by
  obtain ⟨fd, F⟩ := T.F__law_good
  refine mk_fn F sc__law_good (fun vs H Q E h => by
    revert h; intro h; (repeat (first | (obtain ⟨rfl, _⟩ := h; exact rfl) | obtain ⟨_, h⟩ := h))) (fun _ _ _ _ _ _ us hl => match us, hl with | [_], _ => rfl) (t := t__law_good K) (fun cdv A outer s H E hr => ?_) (fun vs H Q E h => pure__law_good vs H Q E h)
  exact pss_cons (ps_if (pt_cmp (o_ne hr.units) (pe_op o_and (pe_ix ix_any (pv 0) (pe_int) (fun _ _ => rfl)) (pe_ix ix_any (pv 0) (pe_int) (fun _ _ => rfl))) (pe_int) (nomark _)) (pss_one (ps_ret (pe_bl))) (pss_nil))
    (pss_stop (pss_one (ps_ret (pe_and (pe_cmp (o_eq hr.units) (pe_op o_and (pe_ix ix_any (pv 0) (pe_int) (fun _ _ => rfl)) (pe_ix ix_any (pv 0) (pe_int) (fun _ _ => rfl))) (pe_ix ix_any (pv 0) (pe_int) (fun _ _ => rfl)) (nomark _)) (pe_one (pe_cmp (o_eq hr.units) (pe_op o_and (pe_ix ix_any (pv 0) (pe_int) (fun _ _ => rfl)) (pe_ix ix_any (pv 0) (pe_int) (fun _ _ => rfl))) (pe_ix ix_any (pv 0) (pe_int) (fun _ _ => rfl)) (nomark _)))))))
theorem ok_Answer_unknown (T : T0 P K mg) : FR P w K mg base 5 (uA K "Answer" "unknown") (sp_Answer_unknown K) := by
  obtain ⟨fd, F⟩ := T.F_Answer_unknown
  have G_Bitmapdd_subdd := ok_Bitmapdd_subdd (P := P) (w := w) (base := base) T
  refine mk_fn F sc_Answer_unknown (fun vs H Q E h => by
    revert h; intro h; (repeat (first | (obtain ⟨rfl, _⟩ := h; exact rfl) | obtain ⟨_, h⟩ := h))) (fun _ _ _ _ _ _ us hl => match us, hl with | [_], _ => rfl) (t := t_Answer_unknown K) (fun cdv A outer s H E hr => ?_) (fun vs H Q E h => pure_Answer_unknown vs H Q E h)
  exact pss_one (ps_ret (pe_op (op_ownB T.C_Bitmap.mf T.M_Bitmapdd_subdd G_Bitmapdd_subdd (hr.mono (by decide)) passD o_sub) (pe_op (op_ownB T.C_Bitmap.mf T.M_Bitmapdd_subdd G_Bitmapdd_subdd (hr.mono (by decide)) passD o_sub) (pe_at (pv 0)) (pe_at (pv 0))) (pe_at (pv 0))))
theorem ok__law_is_number (T : T0 P K mg) : FR P w K mg base 1 (He.fAd K ("_law_is_number", none)) (sp__law_is_number K) := by
  obtain ⟨fd, F⟩ := T.F__law_is_number
  refine mk_fn F sc__law_is_number (fun vs H Q E h => by
    revert h; intro h; (repeat (first | (obtain ⟨rfl, _⟩ := h; exact rfl) | obtain ⟨_, h⟩ := h))) (fun _ _ _ _ _ _ us hl => match us, hl with | [_], _ => rfl) (t := t__law_is_number K) (fun cdv A outer s H E hr => ?_) (fun vs H Q E h => pure__law_is_number vs H Q E h)
  exact pss_one (ps_ret (pe_and (pe_cb c_isi T.n_isinstance (by decide +kernel) (pa_cons (pv 0) (pa_cons (pe_bt T.n_int (by decide +kernel)) (pa_nil)))) (pe_one (pe_not (pe_cb c_isi T.n_isinstance (by decide +kernel) (pa_cons (pv 0) (pa_cons (pe_bt T.n_bool (by decide +kernel)) (pa_nil))))))))
theorem ok_Bitmapdd_containsdd (T : T0 P K mg) : FR P w K mg base 1 (He.fAd K ("Bitmap", some "__contains__")) (sp_Bitmapdd_containsdd K) := by
  obtain ⟨fd, F⟩ := T.F_Bitmapdd_containsdd
  refine mk_fn F sc_Bitmapdd_containsdd (fun vs H Q E h => by
    revert h; intro h; (repeat (first | (obtain ⟨rfl, _⟩ := h; exact rfl) | obtain ⟨_, h⟩ := h))) (fun _ _ _ _ _ _ us hl => match us, hl with | [_, _], _ => rfl) (t := t_Bitmapdd_containsdd K) (fun cdv A outer s H E hr => ?_) (fun vs H Q E h => pure_Bitmapdd_containsdd vs H Q E h)
  exact pss_one (ps_ret (pe_and (pe_chain o_le o_lt (pe_int) (pv 1) (pe_at (pv 0))) (pe_one (pe_cmp (o_eq hr.units) (pe_op o_and (pe_cb c_len T.n_len (by decide +kernel) (pa_cons (pe_lc (own := [("end", 2)]) rfl sc_Bitmapdd_containsdd.nd (pi_seq (pe_at (pv 0))) (blkOk_by (own := [("end", 2)]) (N := ["self", "row", "end"]) (sc := defScope s_Bitmapdd_containsdd) (by decide +kernel)) (fun _ _ _ _ _ => pg_name (i := 2) sc_Bitmapdd_containsdd.nd rfl (Or.inl rfl)) (fun _ _ _ _ _ => pts_one (pt_cmp o_le (pv 2) (pv 1) (nomark _))) (fun _ _ _ _ _ => pv 2)) (pa_nil))) (pe_int)) (pe_int) (nomark _)))))
theorem ok__law_is (T : T0 P K mg) : FR P w K mg base 7 (He.fAd K ("_law_is", none)) (sp__law_is K) := by
  obtain ⟨fd, F⟩ := T.F__law_is
  have G_Answer_unknown := ok_Answer_unknown (P := P) (w := w) (base := base) T
  have G_Bitmapdd_containsdd := ok_Bitmapdd_containsdd (P := P) (w := w) (base := base) T
  have G__law_is_number := ok__law_is_number (P := P) (w := w) (base := base) T
  refine mk_fn F sc__law_is (fun vs H Q E h => by
    revert h; intro h; (repeat (first | (obtain ⟨rfl, _⟩ := h; exact rfl) | obtain ⟨_, h⟩ := h))) (fun _ _ _ _ _ _ us hl => match us, hl with | [_, _, _], _ => rfl) (t := t__law_is K) (fun cdv A outer s H E hr => ?_) (fun vs H Q E h => pure__law_is vs H Q E h)
  exact pss_cons (ps_if (pt_not (pt_of (pe_giv T.D_Answer.mf (pe_cb c_isi T.n_isinstance (by decide +kernel) (pa_cons (pv 0) (pa_cons (pe_glob (by rfl) T.g_Answer rfl) (pa_nil))))))) (pss_one (ps_ret (pe_bl))) (pss_nil))
    (pss_stop (pss_cons (ps_set (i := 3) sc__law_is.nd rfl (Or.inl rfl) (pe_lst (pa_cons (pe_ix ix_any (pv 2) (pe_int) (fun _ _ => rfl)) (pa_cons (pe_ix ix_any (pv 2) (pe_int) (fun _ _ => rfl)) (pa_cons (pe_ix ix_any (pv 2) (pe_int) (fun _ _ => rfl)) (pa_cons (pe_op o_sub (pe_op o_sub (pe_ix ix_any (pv 2) (pe_int) (fun _ _ => rfl)) (pe_ix ix_any (pv 2) (pe_int) (fun _ _ => rfl))) (pe_ix ix_any (pv 2) (pe_int) (fun _ _ => rfl))) (pa_nil)))))))
    (pss_stop (pss_cons (ps_set (i := 4) sc__law_is.nd rfl (Or.inl rfl) (pe_lst (pa_cons (pe_at (pv 0)) (pa_cons (pe_at (pv 0)) (pa_cons (pe_at (pv 0)) (pa_cons (pe_propD T.D_Answer.cl T.P_Answer_unknown G_Answer_unknown (hr.mono (by decide)) (pv 0)) (pa_nil)))))))
    (pss_stop (pss_cons (ps_for ownD rfl (pi_rng (by rfl) T.n_range (pa_cons (pe_int) (pa_nil))) (pg_name (i := 5) sc__law_is.nd rfl (Or.inl rfl)) (pss_cons (ps_if (PW.pt (pw_or (pt_not (pt_of (pe_giv T.C_Bitmap.mf (pe_cb c_isi T.n_isinstance (by decide +kernel) (pa_cons (pe_ix ix_any (pv 4) (pv 5) (fun _ _ => rfl)) (pa_cons (pe_glob (by rfl) T.g_Bitmap rfl) (pa_nil))))))) (pw_or (pt_not (pt_of (pe_call (G__law_is_number) (hr.mono (by decide)) T.g__law_is_number T.k__law_is_number passD (pa_cons (pe_at (pe_ix ix_any (pv 4) (pv 5) (fun _ _ => rfl))) (pa_nil))))) (pw_or1 (pt_cmp (o_ne hr.units) (pe_at (pe_ix ix_any (pv 4) (pv 5) (fun _ _ => rfl))) (pv 1) (nomark _)))))) (pss_one (ps_ret (pe_bl))) (pss_nil))
    (pss_stop (pss_one (ps_for ownD rfl (pi_rng (by rfl) T.n_range (pa_cons (pv 1) (pa_nil))) (pg_name (i := 6) sc__law_is.nd rfl (Or.inl rfl)) (pss_one (ps_if (pt_cmp (o_ne hr.units) (pe_cmp (op_inO T.M_Bitmapdd_containsdd G_Bitmapdd_containsdd (hr.mono (by decide)) passD) (pv 6) (pe_ix ix_any (pv 4) (pv 5) (fun _ _ => rfl)) (by rfl)) (pe_cmp (o_eq hr.units) (pe_op o_and (pe_op o_shr (pe_ix ix_any (pv 3) (pv 5) (fun _ _ => rfl)) (pv 6)) (pe_int)) (pe_int) (nomark _)) (nomark _)) (pss_one (ps_ret (pe_bl))) (pss_nil))))))))
    (pss_stop (pss_one (ps_ret (pe_bl))))))))))
theorem ok_Answerdd_invertdd (T : T0 P K mg) : FR P w K mg base 7 (He.fAd K ("Answer", some "__invert__")) (sp_Answerdd_invertdd K) := by
  obtain ⟨fd, F⟩ := T.F_Answerdd_invertdd
  have G_Answerdd_initdd := ok_Answerdd_initdd (P := P) (w := w) (base := base) T
  refine mk_fn F sc_Answerdd_invertdd (fun vs H Q E h => by
    revert h; intro h; (repeat (first | (obtain ⟨rfl, _⟩ := h; exact rfl) | obtain ⟨_, h⟩ := h))) (fun _ _ _ _ _ _ us hl => match us, hl with | [_], _ => rfl) (t := t_Answerdd_invertdd K) (fun cdv A outer s H E hr => ?_) (fun vs H Q E h => pure_Answerdd_invertdd vs H Q E h)
  exact pss_one (ps_ret (pe_giv T.D_Answer (pe_mk T.K_Answer G_Answerdd_initdd (hr.mono (by decide)) T.g_Answer passD (pa_cons (pe_at (pv 0)) (pa_cons (pe_at (pv 0)) (pa_cons (pe_at (pv 0)) (pa_nil)))))))
theorem ok_Answer_surely (T : T0 P K mg) : FR P w K mg base 7 (He.fAd K ("Answer", some "surely")) (sp_Answer_surely K) := by
  obtain ⟨fd, F⟩ := T.F_Answer_surely
  have G_Answerdd_initdd := ok_Answerdd_initdd (P := P) (w := w) (base := base) T
  have G_Bitmapdd_subdd := ok_Bitmapdd_subdd (P := P) (w := w) (base := base) T
  refine mk_fn F sc_Answer_surely (fun vs H Q E h => by
    revert h; intro h; (repeat (first | (obtain ⟨rfl, _⟩ := h; exact rfl) | obtain ⟨_, h⟩ := h))) (fun _ _ _ _ _ _ us hl => match us, hl with | [_], _ => rfl) (t := t_Answer_surely K) (fun cdv A outer s H E hr => ?_) (fun vs H Q E h => pure_Answer_surely vs H Q E h)
  exact pss_one (ps_ret (pe_giv T.D_Answer (pe_mk T.K_Answer G_Answerdd_initdd (hr.mono (by decide)) T.g_Answer passD (pa_cons (pe_at (pv 0)) (pa_cons (pe_at (pv 0)) (pa_cons (pe_op (op_ownB T.C_Bitmap.mf T.M_Bitmapdd_subdd G_Bitmapdd_subdd (hr.mono (by decide)) passD o_sub) (pe_at (pv 0)) (pe_at (pv 0))) (pa_nil)))))))
theorem ok_Bitmapdd_eqdd (T : T0 P K mg) : FR P w K mg base 1 (He.fAd K ("Bitmap", some "__eq__")) (sp_Bitmapdd_eqdd K) := by
  obtain ⟨fd, F⟩ := T.F_Bitmapdd_eqdd
  refine mk_fn F sc_Bitmapdd_eqdd (fun vs H Q E h => by
    revert h; intro h; (repeat (first | (obtain ⟨rfl, _⟩ := h; exact rfl) | obtain ⟨_, h⟩ := h))) (fun _ _ _ _ _ _ us hl => match us, hl with | [_, _], _ => rfl) (t := t_Bitmapdd_eqdd K) (fun cdv A outer s H E hr => ?_) (fun vs H Q E h => pure_Bitmapdd_eqdd vs H Q E h)
  exact pss_one (ps_ret (pe_and (pe_giv T.C_Bitmap.mf (pe_cb c_isi T.n_isinstance (by decide +kernel) (pa_cons (pv 1) (pa_cons (pe_glob (by rfl) T.g_Bitmap rfl) (pa_nil))))) (pe_and (pe_cmp (o_eq hr.units) (pe_at (pv 0)) (pe_at (pv 1)) (nomark _)) (pe_one (pe_cmp (o_eq hr.units) (pe_at (pv 0)) (pe_at (pv 1)) (nomark _))))))
theorem ok_Answerdd_eqdd (T : T0 P K mg) : FR P w K mg base 2 (He.fAd K ("Answer", some "__eq__")) (sp_Answerdd_eqdd K) := by
  obtain ⟨fd, F⟩ := T.F_Answerdd_eqdd
  have G_Bitmapdd_eqdd := ok_Bitmapdd_eqdd (P := P) (w := w) (base := base) T
  refine mk_fn F sc_Answerdd_eqdd (fun vs H Q E h => by
    revert h; intro h; (repeat (first | (obtain ⟨rfl, _⟩ := h; exact rfl) | obtain ⟨_, h⟩ := h))) (fun _ _ _ _ _ _ us hl => match us, hl with | [_, _], _ => rfl) (t := t_Answerdd_eqdd K) (fun cdv A outer s H E hr => ?_) (fun vs H Q E h => pure_Answerdd_eqdd vs H Q E h)
  exact pss_one (ps_ret (pe_and (pe_giv T.D_Answer.mf (pe_cb c_isi T.n_isinstance (by decide +kernel) (pa_cons (pv 1) (pa_cons (pe_glob (by rfl) T.g_Answer rfl) (pa_nil))))) (pe_and (pe_cmp (op_eqO T.M_Bitmapdd_eqdd G_Bitmapdd_eqdd (hr.mono (by decide)) passD) (pe_at (pv 0)) (pe_at (pv 1)) (nomark _)) (pe_and (pe_cmp (op_eqO T.M_Bitmapdd_eqdd G_Bitmapdd_eqdd (hr.mono (by decide)) passD) (pe_at (pv 0)) (pe_at (pv 1)) (nomark _)) (pe_one (pe_cmp (op_eqO T.M_Bitmapdd_eqdd G_Bitmapdd_eqdd (hr.mono (by decide)) passD) (pe_at (pv 0)) (pe_at (pv 1)) (nomark _)))))))
theorem ok_Bitmapdd_ordd (T : T0 P K mg) : FR P w K mg base 4 (He.fAd K ("Bitmap", some "__or__")) (sp_Bitmapdd_ordd K) := by
  obtain ⟨fd, F⟩ := T.F_Bitmapdd_ordd
  have G_Bitmap_paired := ok_Bitmap_paired (P := P) (w := w) (base := base) T
  refine mk_fn F sc_Bitmapdd_ordd (fun vs H Q E h => by
    revert h; intro h; (repeat (first | (obtain ⟨rfl, _⟩ := h; exact rfl) | obtain ⟨_, h⟩ := h))) (fun _ _ _ _ _ _ us hl => match us, hl with | [_, _], _ => rfl) (t := t_Bitmapdd_ordd K) (fun cdv A outer s H E hr => ?_) (fun vs H Q E h => pure_Bitmapdd_ordd vs H Q E h)
  exact pss_one (ps_ret (pe_meth T.C_Bitmap.sc T.M_Bitmap_paired G_Bitmap_paired (hr.mono (by decide)) passD (pv 0) (pa_cons (pv 1) (pa_cons (pe_giv T.U_OR (pe_glob (by rfl) T.g_OR rfl)) (pa_nil)))))
theorem ok_Answerdd_anddd (T : T0 P K mg) : FR P w K mg base 7 (He.fAd K ("Answer", some "__and__")) (sp_Answerdd_anddd K) := by
  obtain ⟨fd, F⟩ := T.F_Answerdd_anddd
  have G_Answerdd_initdd := ok_Answerdd_initdd (P := P) (w := w) (base := base) T
  have G_Bitmapdd_anddd := ok_Bitmapdd_anddd (P := P) (w := w) (base := base) T
  have G_Bitmapdd_eqdd := ok_Bitmapdd_eqdd (P := P) (w := w) (base := base) T
  have G_Bitmapdd_ordd := ok_Bitmapdd_ordd (P := P) (w := w) (base := base) T
  refine mk_fn F sc_Answerdd_anddd (fun vs H Q E h => by
    revert h; intro h; (repeat (first | (obtain ⟨rfl, _⟩ := h; exact rfl) | obtain ⟨_, h⟩ := h))) (fun _ _ _ _ _ _ us hl => match us, hl with | [_, _], _ => rfl) (t := t_Answerdd_anddd K) (fun cdv A outer s H E hr => ?_) (fun vs H Q E h => pure_Answerdd_anddd vs H Q E h)
  exact pss_cons (ps_if (pt_not (pt_cmp (op_eqO T.M_Bitmapdd_eqdd G_Bitmapdd_eqdd (hr.mono (by decide)) passD) (pe_at (pv 0)) (pe_at (pv 1)) (nomark _))) (pss_one (ps_giv T.X_BadAnswer (ps_rs takesD T.R_BadAnswer T.g_BadAnswer))) (pss_nil))
    (pss_stop (pss_one (ps_ret (pe_giv T.D_Answer (pe_mk T.K_Answer G_Answerdd_initdd (hr.mono (by decide)) T.g_Answer passD (pa_cons (pe_at (pv 0)) (pa_cons (pe_op (op_ownB T.C_Bitmap.mf T.M_Bitmapdd_anddd G_Bitmapdd_anddd (hr.mono (by decide)) passD o_and) (pe_at (pv 0)) (pe_at (pv 1))) (pa_cons (pe_op (op_ownB T.C_Bitmap.mf T.M_Bitmapdd_ordd G_Bitmapdd_ordd (hr.mono (by decide)) passD o_or) (pe_at (pv 0)) (pe_at (pv 1))) (pa_nil)))))))))
theorem ok_Answerdd_ordd (T : T0 P K mg) : FR P w K mg base 7 (He.fAd K ("Answer", some "__or__")) (sp_Answerdd_ordd K) := by
  obtain ⟨fd, F⟩ := T.F_Answerdd_ordd
  have G_Answerdd_initdd := ok_Answerdd_initdd (P := P) (w := w) (base := base) T
  have G_Bitmapdd_anddd := ok_Bitmapdd_anddd (P := P) (w := w) (base := base) T
  have G_Bitmapdd_eqdd := ok_Bitmapdd_eqdd (P := P) (w := w) (base := base) T
  have G_Bitmapdd_ordd := ok_Bitmapdd_ordd (P := P) (w := w) (base := base) T
  refine mk_fn F sc_Answerdd_ordd (fun vs H Q E h => by
    revert h; intro h; (repeat (first | (obtain ⟨rfl, _⟩ := h; exact rfl) | obtain ⟨_, h⟩ := h))) (fun _ _ _ _ _ _ us hl => match us, hl with | [_, _], _ => rfl) (t := t_Answerdd_ordd K) (fun cdv A outer s H E hr => ?_) (fun vs H Q E h => pure_Answerdd_ordd vs H Q E h)
  exact pss_cons (ps_if (pt_not (pt_cmp (op_eqO T.M_Bitmapdd_eqdd G_Bitmapdd_eqdd (hr.mono (by decide)) passD) (pe_at (pv 0)) (pe_at (pv 1)) (nomark _))) (pss_one (ps_giv T.X_BadAnswer (ps_rs takesD T.R_BadAnswer T.g_BadAnswer))) (pss_nil))
    (pss_stop (pss_one (ps_ret (pe_giv T.D_Answer (pe_mk T.K_Answer G_Answerdd_initdd (hr.mono (by decide)) T.g_Answer passD (pa_cons (pe_at (pv 0)) (pa_cons (pe_op (op_ownB T.C_Bitmap.mf T.M_Bitmapdd_ordd G_Bitmapdd_ordd (hr.mono (by decide)) passD o_or) (pe_at (pv 0)) (pe_at (pv 1))) (pa_cons (pe_op (op_ownB T.C_Bitmap.mf T.M_Bitmapdd_anddd G_Bitmapdd_anddd (hr.mono (by decide)) passD o_and) (pe_at (pv 0)) (pe_at (pv 1))) (pa_nil)))))))))
theorem ok__law_joined (T : T0 P K mg) : FR P w K mg base 8 (He.fAd K ("_law_joined", none)) (sp__law_joined K) := by
  obtain ⟨fd, F⟩ := T.F__law_joined
  have G_Answerdd_anddd := ok_Answerdd_anddd (P := P) (w := w) (base := base) T
  have G_Answerdd_ordd := ok_Answerdd_ordd (P := P) (w := w) (base := base) T
  refine mk_fn F sc__law_joined (fun vs H Q E h => by
    revert h; intro h; (repeat (first | (obtain ⟨rfl, _⟩ := h; exact rfl) | obtain ⟨_, h⟩ := h))) (fun _ _ _ _ _ _ us hl => match us, hl with | [_, _, _], _ => rfl) (t := t__law_joined K) (fun cdv A outer s H E hr => ?_) (fun vs H Q E h => pure__law_joined vs H Q E h)
  exact pss_cons (ps_set (i := 3) sc__law_joined.nd rfl (Or.inl rfl) (pe_str))
    (pss_stop (pss_cons (ps_set (i := 4) sc__law_joined.nd rfl (Or.inl rfl) (pe_non))
    (pss_stop (pss_cons (ps_giv T.X_BadAnswer (ps_tryO T.g_BadAnswer takesD (fun W1 pn1 xe1 tk1 po1 => pss_one (ps_if (pt_of (pv 2)) (pss_one (ps_set (i := 4) sc__law_joined.nd rfl (Or.inl rfl) (pe_binD T.D_Answer.mf T.M_Answerdd_anddd G_Answerdd_anddd (hr.mono (by decide)) (passAt tk1) (pv 0) (pv 1)))) (pss_one (ps_set (i := 4) sc__law_joined.nd rfl (Or.inl rfl) (pe_binD T.D_Answer.mf T.M_Answerdd_ordd G_Answerdd_ordd (hr.mono (by decide)) (passAt tk1) (pv 0) (pv 1)))))) (fun a1 oe1 cls1 d1 pn1 hz1 hf1 => pss_one (ps_set (i := 3) sc__law_joined.nd rfl (Or.inl rfl) (pe_str)))))
    (pss_stop (pss_one (ps_ret (pe_tup (pa_cons (pv 3) (pa_cons (pv 4) (pa_nil)))))))))))
theorem ok__law_alone (T : T0 P K mg) : FR P w K mg base 9 (He.fAd K ("_law_alone", none)) (sp__law_alone K) := by
  obtain ⟨fd, F⟩ := T.F__law_alone
  have G_Answer_surely := ok_Answer_surely (P := P) (w := w) (base := base) T
  have G_Answerdd_eqdd := ok_Answerdd_eqdd (P := P) (w := w) (base := base) T
  have G_Answerdd_initdd := ok_Answerdd_initdd (P := P) (w := w) (base := base) T
  have G_Answerdd_invertdd := ok_Answerdd_invertdd (P := P) (w := w) (base := base) T
  have G_Bitmapdd_initdd := ok_Bitmapdd_initdd (P := P) (w := w) (base := base) T
  have G__law_is := ok__law_is (P := P) (w := w) (base := base) T
  have G__law_joined := ok__law_joined (P := P) (w := w) (base := base) T
  refine mk_fn F sc__law_alone (fun vs H Q E h => by
    revert h; intro h; (repeat (first | (obtain ⟨rfl, _⟩ := h; exact rfl) | obtain ⟨_, h⟩ := h))) (fun _ _ _ _ _ _ us hl => match us, hl with | [_, _, _], _ => rfl) (t := t__law_alone K) (fun cdv A outer s H E hr => ?_) (fun vs H Q E h => pure__law_alone vs H Q E h)
  exact pss_cons (ps_if (PW.pt (pw_or (pt_not (pt_of (pe_call (G__law_is) (hr.mono (by decide)) T.g__law_is T.k__law_is passD (pa_cons (pv 0) (pa_cons (pv 1) (pa_cons (pv 2) (pa_nil))))))) (pw_or1 (pt_not (pt_of (pe_call (G__law_is) (hr.mono (by decide)) T.g__law_is T.k__law_is passD (pa_cons (pe_un (u_invD T.M_Answerdd_invertdd G_Answerdd_invertdd (hr.mono (by decide)) passD) (pv 0)) (pa_cons (pv 1) (pa_cons (pe_lst (pa_cons (pe_ix ix_any (pv 2) (pe_int) (fun _ _ => rfl)) (pa_cons (pe_ix ix_any (pv 2) (pe_int) (fun _ _ => rfl)) (pa_cons (pe_ix ix_any (pv 2) (pe_int) (fun _ _ => rfl)) (pa_nil))))) (pa_nil)))))))))) (pss_one (ps_ret (pe_bl))) (pss_nil))
    (pss_stop (pss_cons (ps_if (pt_not (pt_of (pe_call (G__law_is) (hr.mono (by decide)) T.g__law_is T.k__law_is passD (pa_cons (pe_methD0 T.D_Answer.cl T.M_Answer_surely G_Answer_surely (hr.mono (by decide)) passD (pv 0)) (pa_cons (pv 1) (pa_cons (pe_lst (pa_cons (pe_ix ix_any (pv 2) (pe_int) (fun _ _ => rfl)) (pa_cons (pe_ix ix_any (pv 2) (pe_int) (fun _ _ => rfl)) (pa_cons (pe_op o_sub (pe_ix ix_any (pv 2) (pe_int) (fun _ _ => rfl)) (pe_ix ix_any (pv 2) (pe_int) (fun _ _ => rfl))) (pa_nil))))) (pa_nil))))))) (pss_one (ps_ret (pe_bl))) (pss_nil))
    (pss_stop (pss_cons (ps_if (PW.pt (pw_or (pt_cmp o_notT (pe_cmp (op_eqD2 T.M_Answerdd_eqdd G_Answerdd_eqdd (hr.mono (by decide)) passD) (pv 0) (pe_int) (nomark _)) (pe_bl) (nomark _)) (pw_or (pt_cmp o_notT (pe_cmp (op_eqD2 T.M_Answerdd_eqdd G_Answerdd_eqdd (hr.mono (by decide)) passD) (pv 0) (pe_at (pv 0)) (nomark _)) (pe_bl) (nomark _)) (pw_or1 (pt_cmp o_notT (pe_cmp (op_eqD2 T.M_Answerdd_eqdd G_Answerdd_eqdd (hr.mono (by decide)) passD) (pv 0) (pv 0) (nomark _)) (pe_bl) (nomark _)))))) (pss_one (ps_ret (pe_bl))) (pss_nil))
    (pss_stop (pss_cons (ps_set (i := 3) sc__law_alone.nd rfl (Or.inl rfl) (pe_giv T.C_Bitmap (pe_mk T.K_Bitmap G_Bitmapdd_initdd (hr.mono (by decide)) T.g_Bitmap passD (pa_cons (pe_op o_add (pv 1) (pe_int)) (pa_cons (pe_lst (pa_nil)) (pa_nil))))))
    (pss_stop (pss_cons (ps_set (i := 4) sc__law_alone.nd rfl (Or.inl rfl) (pe_giv T.D_Answer (pe_mk T.K_Answer G_Answerdd_initdd (hr.mono (by decide)) T.g_Answer passD (pa_cons (pv 3) (pa_cons (pv 3) (pa_cons (pv 3) (pa_nil)))))))
    (pss_stop (pss_cons (ps_if (PW.pt (pw_or (pt_cmp o_notT (pe_cmp (op_eqD2 T.M_Answerdd_eqdd G_Answerdd_eqdd (hr.mono (by decide)) passD) (pv 0) (pv 4) (nomark _)) (pe_bl) (nomark _)) (pw_or1 (pt_cmp (o_ne hr.units) (pe_ix ix_any (pe_call (G__law_joined) (hr.mono (by decide)) T.g__law_joined T.k__law_joined passD (pa_cons (pv 0) (pa_cons (pv 4) (pa_cons (pe_bl) (pa_nil))))) (pe_int) (fun _ _ => rfl)) (pe_str) (nomark _))))) (pss_one (ps_ret (pe_bl))) (pss_nil))
    (pss_stop (pss_one (ps_ret (pe_and (pe_cmp (op_eqD2 T.M_Answerdd_eqdd G_Answerdd_eqdd (hr.mono (by decide)) passD) (pe_ix ix_any (pe_call (G__law_joined) (hr.mono (by decide)) T.g__law_joined T.k__law_joined passD (pa_cons (pv 4) (pa_cons (pv 0) (pa_cons (pe_bl) (pa_nil))))) (pe_int) (fun _ _ => rfl)) (pe_str) (nomark _)) (pe_one (pe_call (G__law_is) (hr.mono (by decide)) T.g__law_is T.k__law_is passD (pa_cons (pv 0) (pa_cons (pv 1) (pa_cons (pv 2) (pa_nil))))))))))))))))))))
theorem ok__law_both (T : T0 P K mg) : FR P w K mg base 9 (He.fAd K ("_law_both", none)) (sp__law_both K) := by
  obtain ⟨fd, F⟩ := T.F__law_both
  have G_Answerdd_eqdd := ok_Answerdd_eqdd (P := P) (w := w) (base := base) T
  have G__law_is := ok__law_is (P := P) (w := w) (base := base) T
  have G__law_joined := ok__law_joined (P := P) (w := w) (base := base) T
  refine mk_fn F sc__law_both (fun vs H Q E h => by
    revert h; intro h; (repeat (first | (obtain ⟨rfl, _⟩ := h; exact rfl) | obtain ⟨_, h⟩ := h))) (fun _ _ _ _ _ _ us hl => match us, hl with | [_, _, _, _, _], _ => rfl) (t := t__law_both K) (fun cdv A outer s H E hr => ?_) (fun vs H Q E h => pure__law_both vs H Q E h)
  exact pss_cons (ps_set (i := 5) sc__law_both.nd rfl (Or.inl rfl) (pe_lst (pa_cons (pe_ix ix_any (pv 3) (pe_int) (fun _ _ => rfl)) (pa_cons (pe_op o_and (pe_ix ix_any (pv 3) (pe_int) (fun _ _ => rfl)) (pe_ix ix_any (pv 4) (pe_int) (fun _ _ => rfl))) (pa_cons (pe_op o_or (pe_ix ix_any (pv 3) (pe_int) (fun _ _ => rfl)) (pe_ix ix_any (pv 4) (pe_int) (fun _ _ => rfl))) (pa_nil))))))
    (pss_stop (pss_cons (ps_set (i := 6) sc__law_both.nd rfl (Or.inl rfl) (pe_lst (pa_cons (pe_ix ix_any (pv 3) (pe_int) (fun _ _ => rfl)) (pa_cons (pe_op o_or (pe_ix ix_any (pv 3) (pe_int) (fun _ _ => rfl)) (pe_ix ix_any (pv 4) (pe_int) (fun _ _ => rfl))) (pa_cons (pe_op o_and (pe_ix ix_any (pv 3) (pe_int) (fun _ _ => rfl)) (pe_ix ix_any (pv 4) (pe_int) (fun _ _ => rfl))) (pa_nil))))))
    (pss_stop (pss_cons (ps_set (i := 7) sc__law_both.nd rfl (Or.inl rfl) (pe_cmp (op_eqD2 T.M_Answerdd_eqdd G_Answerdd_eqdd (hr.mono (by decide)) passD) (pv 0) (pv 1) (nomark _)))
    (pss_stop (pss_cons (ps_if (PW.pt (pw_or (pt_not (pt_of (pe_cb c_isi T.n_isinstance (by decide +kernel) (pa_cons (pv 7) (pa_cons (pe_bt T.n_bool (by decide +kernel)) (pa_nil)))))) (pw_or1 (pt_cmp (o_ne hr.units) (pv 7) (pe_cmp (op_eqD2 T.M_Answerdd_eqdd G_Answerdd_eqdd (hr.mono (by decide)) passD) (pv 3) (pv 4) (nomark _)) (nomark _))))) (pss_one (ps_ret (pe_bl))) (pss_nil))
    (pss_stop (pss_cons (ps_set (i := 8) sc__law_both.nd rfl (Or.inl rfl) (pe_lst (pa_cons (pe_call (G__law_joined) (hr.mono (by decide)) T.g__law_joined T.k__law_joined passD (pa_cons (pv 0) (pa_cons (pv 1) (pa_cons (pe_bl) (pa_nil))))) (pa_cons (pe_call (G__law_joined) (hr.mono (by decide)) T.g__law_joined T.k__law_joined passD (pa_cons (pv 0) (pa_cons (pv 1) (pa_cons (pe_bl) (pa_nil))))) (pa_nil)))))
    (pss_stop (pss_cons (ps_if (pt_cmp (o_ne hr.units) (pe_ix ix_any (pv 3) (pe_int) (fun _ _ => rfl)) (pe_ix ix_any (pv 4) (pe_int) (fun _ _ => rfl)) (nomark _)) (pss_one (ps_ret (pe_and (pe_cmp (op_eqD2 T.M_Answerdd_eqdd G_Answerdd_eqdd (hr.mono (by decide)) passD) (pe_ix ix_any (pe_ix ix_any (pv 8) (pe_int) (fun _ _ => rfl)) (pe_int) (fun _ _ => rfl)) (pe_str) (nomark _)) (pe_one (pe_cmp (op_eqD2 T.M_Answerdd_eqdd G_Answerdd_eqdd (hr.mono (by decide)) passD) (pe_ix ix_any (pe_ix ix_any (pv 8) (pe_int) (fun _ _ => rfl)) (pe_int) (fun _ _ => rfl)) (pe_str) (nomark _)))))) (pss_nil))
    (pss_stop (pss_cons (ps_if (PW.pt (pw_or (pt_cmp (o_ne hr.units) (pe_ix ix_any (pe_ix ix_any (pv 8) (pe_int) (fun _ _ => rfl)) (pe_int) (fun _ _ => rfl)) (pe_str) (nomark _)) (pw_or1 (pt_cmp (o_ne hr.units) (pe_ix ix_any (pe_ix ix_any (pv 8) (pe_int) (fun _ _ => rfl)) (pe_int) (fun _ _ => rfl)) (pe_str) (nomark _))))) (pss_one (ps_ret (pe_bl))) (pss_nil))
    (pss_stop (pss_one (ps_ret (pe_and (pe_call (G__law_is) (hr.mono (by decide)) T.g__law_is T.k__law_is passD (pa_cons (pe_ix ix_any (pe_ix ix_any (pv 8) (pe_int) (fun _ _ => rfl)) (pe_int) (fun _ _ => rfl)) (pa_cons (pv 2) (pa_cons (pv 5) (pa_nil))))) (pe_one (pe_call (G__law_is) (hr.mono (by decide)) T.g__law_is T.k__law_is passD (pa_cons (pe_ix ix_any (pe_ix ix_any (pv 8) (pe_int) (fun _ _ => rfl)) (pe_int) (fun _ _ => rfl)) (pa_cons (pv 2) (pa_cons (pv 6) (pa_nil))))))))))))))))))))))
theorem ok_law (T : T0 P K mg) {fd : FuncData} (F : FunD K "law" "law" (defArgs s_law) (defBody s_law) (defScope s_law) [] [] (He.fAd K ("law", none)) fd) : FnOk P w K mg base CX0 10 (He.fAd K ("law", none)) fd ["_law_script"] (sp_law K) := by
  have G__law_alone := ok__law_alone (P := P) (w := w) (base := base) T
  have G__law_both := ok__law_both (P := P) (w := w) (base := base) T
  have G__law_draw := ok__law_draw (P := P) (w := w) (base := base) T
  have G__law_good := ok__law_good (P := P) (w := w) (base := base) T
  have G__law_is := ok__law_is (P := P) (w := w) (base := base) T
  have G__law_masks := ok__law_masks (P := P) (w := w) (base := base) T
  have G__law_tried := ok__law_tried (P := P) (w := w) (base := base) T
  refine mk_law F sc_law (fun vs H Q E h => by
    revert h; intro h; (repeat (first | (obtain ⟨rfl, _⟩ := h; exact rfl) | obtain ⟨_, h⟩ := h))) (t := t_law K) (fun cdv A outer s H E hr => ?_) (fun vs H Q E h => pure_law vs H Q E0 h)
  exact pss_cons (ps_set (i := 1) sc_law.nd rfl (Or.inl rfl) (pe_lst (pa_cons (pe_int) (pa_cons (pe_int) (pa_cons (pe_int) (pa_cons (pe_int) (pa_nil)))))))
    (pss_stop (pss_cons (ps_set (i := 2) sc_law.nd rfl (Or.inl rfl) (pe_call (G__law_draw) (hr.mono (by decide)) T.g__law_draw T.k__law_draw passL0 (pa_cons (pv 0) (pa_cons (pv 1) (pa_cons (pe_int) (pa_nil))))))
    (pss_stop (pss_cons (ps_set (i := 3) sc_law.nd rfl (Or.inl rfl) (pe_call (G__law_masks) (hr.mono (by decide)) T.g__law_masks T.k__law_masks passL0 (pa_cons (pv 0) (pa_cons (pv 1) (pa_cons (pv 2) (pa_nil))))))
    (pss_stop (pss_cons (ps_set (i := 4) sc_law.nd rfl (Or.inl rfl) (pe_call (G__law_masks) (hr.mono (by decide)) T.g__law_masks T.k__law_masks passL0 (pa_cons (pv 0) (pa_cons (pv 1) (pa_cons (pv 2) (pa_nil))))))
    (pss_stop (pss_cons (ps_if (pt_cmp (o_ne hr.units) (pe_call (G__law_draw) (hr.mono (by decide)) T.g__law_draw T.k__law_draw passL0 (pa_cons (pv 0) (pa_cons (pv 1) (pa_cons (pe_int) (pa_nil))))) (pe_int) (nomark _)) (pss_one (ps_set (i := 4) sc_law.nd rfl (Or.inl rfl) (pe_lst (pa_cons (pe_ix ix_any (pv 3) (pe_int) (fun _ _ => rfl)) (pa_cons (pe_op o_and (pe_ix ix_any (pv 4) (pe_int) (fun _ _ => rfl)) (pe_ix ix_any (pv 3) (pe_int) (fun _ _ => rfl))) (pa_cons (pe_op o_and (pe_ix ix_any (pv 4) (pe_int) (fun _ _ => rfl)) (pe_ix ix_any (pv 3) (pe_int) (fun _ _ => rfl))) (pa_nil))))))) (pss_nil))
    (pss_stop (pss_cons (ps_set (i := 5) sc_law.nd rfl (Or.inl rfl) (pe_call (G__law_draw) (hr.mono (by decide)) T.g__law_draw T.k__law_draw passL0 (pa_cons (pv 0) (pa_cons (pv 1) (pa_cons (pe_int) (pa_nil))))))
    (pss_stop (pss_cons (ps_if (PW.pt (pw_and (pt_cmp o_gt (pv 5) (pe_int) (nomark _)) (pw_and1 (pt_cmp (o_ne hr.units) (pe_ix ix_any (pe_call (G__law_tried) (hr.mono (by decide)) T.g__law_tried T.k__law_tried passL0 (pa_cons (pv 2) (pa_cons (pv 3) (pa_cons (pv 5) (pa_nil))))) (pe_int) (fun _ _ => rfl)) (pe_str) (nomark _))))) (pss_one (ps_ret (pe_bl))) (pss_nil))
    (pss_stop (pss_cons (ps_if (pt_cmp (o_ne hr.units) (pe_ix ix_any (pe_call (G__law_tried) (hr.mono (by decide)) T.g__law_tried T.k__law_tried passL0 (pa_cons (pv 2) (pa_cons (pv 4) (pa_cons (pe_op o_add (pe_int) (pe_call (G__law_draw) (hr.mono (by decide)) T.g__law_draw T.k__law_draw passL0 (pa_cons (pv 0) (pa_cons (pv 1) (pa_cons (pe_int) (pa_nil)))))) (pa_nil))))) (pe_int) (fun _ _ => rfl)) (pe_str) (nomark _)) (pss_one (ps_ret (pe_bl))) (pss_nil))
    (pss_stop (pss_cons (ps_set (i := 6) sc_law.nd rfl (Or.inl rfl) (pe_call (G__law_tried) (hr.mono (by decide)) T.g__law_tried T.k__law_tried passL0 (pa_cons (pv 2) (pa_cons (pv 3) (pa_cons (pe_int) (pa_nil))))))
    (pss_stop (pss_cons (ps_set (i := 7) sc_law.nd rfl (Or.inl rfl) (pe_call (G__law_tried) (hr.mono (by decide)) T.g__law_tried T.k__law_tried passL0 (pa_cons (pv 2) (pa_cons (pv 4) (pa_cons (pe_int) (pa_nil))))))
    (pss_stop (pss_cons (ps_if (PW.pt (pw_or (pt_cmp (o_ne hr.units) (pe_ix ix_any (pv 6) (pe_int) (fun _ _ => rfl)) (pe_ix ix_any (pe_lst (pa_cons (pe_str) (pa_cons (pe_str) (pa_nil)))) (pe_ct c_int T.n_int (by decide +kernel) (pa_cons (pe_call (G__law_good) (hr.mono (by decide)) T.g__law_good T.k__law_good passL0 (pa_cons (pv 3) (pa_nil))) (pa_nil))) (fun _ _ => rfl)) (nomark _)) (pw_or1 (pt_cmp (o_ne hr.units) (pe_ix ix_any (pv 7) (pe_int) (fun _ _ => rfl)) (pe_ix ix_any (pe_lst (pa_cons (pe_str) (pa_cons (pe_str) (pa_nil)))) (pe_ct c_int T.n_int (by decide +kernel) (pa_cons (pe_call (G__law_good) (hr.mono (by decide)) T.g__law_good T.k__law_good passL0 (pa_cons (pv 4) (pa_nil))) (pa_nil))) (fun _ _ => rfl)) (nomark _))))) (pss_one (ps_ret (pe_bl))) (pss_nil))
    (pss_stop (pss_cons (ps_if (PW.pt (pw_and (pt_cmp (o_eq hr.units) (pe_ix ix_any (pv 6) (pe_int) (fun _ _ => rfl)) (pe_str) (nomark _)) (pw_and1 (pt_not (pt_of (pe_call (G__law_alone) (hr.mono (by decide)) T.g__law_alone T.k__law_alone passL0 (pa_cons (pe_ix ix_any (pv 6) (pe_int) (fun _ _ => rfl)) (pa_cons (pv 2) (pa_cons (pv 3) (pa_nil)))))))))) (pss_one (ps_ret (pe_bl))) (pss_nil))
    (pss_stop (pss_cons (ps_if (PW.pt (pw_and (pt_cmp (o_eq hr.units) (pe_ix ix_any (pv 6) (pe_int) (fun _ _ => rfl)) (pe_str) (nomark _)) (pw_and1 (pt_cmp (o_eq hr.units) (pe_ix ix_any (pv 7) (pe_int) (fun _ _ => rfl)) (pe_str) (nomark _))))) (pss_cons (ps_if (pt_not (pt_of (pe_call (G__law_both) (hr.mono (by decide)) T.g__law_both T.k__law_both passL0 (pa_cons (pe_ix ix_any (pv 6) (pe_int) (fun _ _ => rfl)) (pa_cons (pe_ix ix_any (pv 7) (pe_int) (fun _ _ => rfl)) (pa_cons (pv 2) (pa_cons (pv 3) (pa_cons (pv 4) (pa_nil))))))))) (pss_one (ps_ret (pe_bl))) (pss_nil))
    (pss_one (ps_ret (pe_and (pe_call (G__law_is) (hr.mono (by decide)) T.g__law_is T.k__law_is passL0 (pa_cons (pe_ix ix_any (pv 6) (pe_int) (fun _ _ => rfl)) (pa_cons (pv 2) (pa_cons (pv 3) (pa_nil))))) (pe_one (pe_call (G__law_is) (hr.mono (by decide)) T.g__law_is T.k__law_is passL0 (pa_cons (pe_ix ix_any (pv 7) (pe_int) (fun _ _ => rfl)) (pa_cons (pv 2) (pa_cons (pv 4) (pa_nil)))))))))) (pss_nil))
    (pss_stop (pss_one (ps_ret (pe_bl))))))))))))))))))))))))))))
end
theorem hfacts {w : World} {K : Frag} {h : Heap} {mg : Str → Option Value} {f : Addr} (X : K.In h) (G : h.Ns mainGlobals mg) (hla : mg ("law" : Str) = some (.ref f)) (c : SaysX hfa hfx hfn K) :
    ∃ fd : FuncData, (∀ (s : Shared) (v : Value), BindsTo s fd ⟨[v], []⟩ [("_law_script", v)]) ∧ ∀ base : Heap, K.In base → base.Ns mainGlobals mg → FnOk hP w K mg base CX0 10 f fd ["_law_script"] (sp_law K) := by
  have g_AND := He.glo_ok X G (c.fact 0 (f := .glo "AND") rfl)
  have g_Answer := He.glo_ok X G (c.fact 1 (f := .glo "Answer") rfl)
  have g_BadAnswer := He.glo_ok X G (c.fact 2 (f := .glo "BadAnswer") rfl)
  have g_BadBitmap := He.glo_ok X G (c.fact 3 (f := .glo "BadBitmap") rfl)
  have g_Bitmap := He.glo_ok X G (c.fact 4 (f := .glo "Bitmap") rfl)
  have g_LESS := He.glo_ok X G (c.fact 5 (f := .glo "LESS") rfl)
  have g_OR := He.glo_ok X G (c.fact 6 (f := .glo "OR") rfl)
  have g_SizesDiffer := He.glo_ok X G (c.fact 7 (f := .glo "SizesDiffer") rfl)
  have g_SliceError := He.glo_ok X G (c.fact 8 (f := .glo "SliceError") rfl)
  have g__law_alone := He.glo_ok X G (c.fact 9 (f := .glo "_law_alone") rfl)
  have g__law_bitmap := He.glo_ok X G (c.fact 10 (f := .glo "_law_bitmap") rfl)
  have g__law_both := He.glo_ok X G (c.fact 11 (f := .glo "_law_both") rfl)
  have g__law_draw := He.glo_ok X G (c.fact 12 (f := .glo "_law_draw") rfl)
  have g__law_good := He.glo_ok X G (c.fact 13 (f := .glo "_law_good") rfl)
  have g__law_is := He.glo_ok X G (c.fact 14 (f := .glo "_law_is") rfl)
  have g__law_is_number := He.glo_ok X G (c.fact 15 (f := .glo "_law_is_number") rfl)
  have g__law_joined := He.glo_ok X G (c.fact 16 (f := .glo "_law_joined") rfl)
  have g__law_masks := He.glo_ok X G (c.fact 17 (f := .glo "_law_masks") rfl)
  have g__law_tried := He.glo_ok X G (c.fact 18 (f := .glo "_law_tried") rfl)
  have g_law := He.glo_ok X G (c.fact 19 (f := .glo "law") rfl)
  have g_next_end := He.glo_ok X G (c.fact 20 (f := .glo "next_end") rfl)
  have g_swept := He.glo_ok X G (c.fact 21 (f := .glo "swept") rfl)
  have n_abs := He.free_ok X G (c.fact 22 (f := .free "abs") rfl)
  have n_bool := He.free_ok X G (c.fact 23 (f := .free "bool") rfl)
  have n_int := He.free_ok X G (c.fact 24 (f := .free "int") rfl)
  have n_isinstance := He.free_ok X G (c.fact 25 (f := .free "isinstance") rfl)
  have n_len := He.free_ok X G (c.fact 26 (f := .free "len") rfl)
  have n_range := He.free_ok X G (c.fact 27 (f := .free "range") rfl)
  have n_tuple := He.free_ok X G (c.fact 28 (f := .free "tuple") rfl)
  have K_Answer : Mk K (He.ga K "Answer") (He.fAd K ("Answer", some "__init__")) := He.mkr_ok (c.fact 29 (f := .mkr "Answer") rfl)
  have K_Bitmap : Mk K (He.ga K "Bitmap") (He.fAd K ("Bitmap", some "__init__")) := He.mkr_ok (c.fact 30 (f := .mkr "Bitmap") rfl)
  have M_Answer_surely : Meth K (He.ga K "Answer") "surely" (He.fAd K ("Answer", some "surely")) := He.meth_ok (c.fact 31 (f := .meth "Answer" "surely") rfl)
  have M_Answerdd_anddd : Meth K (He.ga K "Answer") "__and__" (He.fAd K ("Answer", some "__and__")) := He.meth_ok (c.fact 32 (f := .meth "Answer" "__and__") rfl)
  have M_Answerdd_eqdd : Meth K (He.ga K "Answer") "__eq__" (He.fAd K ("Answer", some "__eq__")) := He.meth_ok (c.fact 33 (f := .meth "Answer" "__eq__") rfl)
  have M_Answerdd_invertdd : Meth K (He.ga K "Answer") "__invert__" (He.fAd K ("Answer", some "__invert__")) := He.meth_ok (c.fact 34 (f := .meth "Answer" "__invert__") rfl)
  have M_Answerdd_ordd : Meth K (He.ga K "Answer") "__or__" (He.fAd K ("Answer", some "__or__")) := He.meth_ok (c.fact 35 (f := .meth "Answer" "__or__") rfl)
  have M_Bitmap_paired : Meth K (He.ga K "Bitmap") "paired" (He.fAd K ("Bitmap", some "paired")) := He.meth_ok (c.fact 36 (f := .meth "Bitmap" "paired") rfl)
  have M_Bitmapdd_anddd : Meth K (He.ga K "Bitmap") "__and__" (He.fAd K ("Bitmap", some "__and__")) := He.meth_ok (c.fact 37 (f := .meth "Bitmap" "__and__") rfl)
  have M_Bitmapdd_booldd : Meth K (He.ga K "Bitmap") "__bool__" (He.fAd K ("Bitmap", some "__bool__")) := He.meth_ok (c.fact 38 (f := .meth "Bitmap" "__bool__") rfl)
  have M_Bitmapdd_containsdd : Meth K (He.ga K "Bitmap") "__contains__" (He.fAd K ("Bitmap", some "__contains__")) := He.meth_ok (c.fact 39 (f := .meth "Bitmap" "__contains__") rfl)
  have M_Bitmapdd_eqdd : Meth K (He.ga K "Bitmap") "__eq__" (He.fAd K ("Bitmap", some "__eq__")) := He.meth_ok (c.fact 40 (f := .meth "Bitmap" "__eq__") rfl)
  have M_Bitmapdd_ordd : Meth K (He.ga K "Bitmap") "__or__" (He.fAd K ("Bitmap", some "__or__")) := He.meth_ok (c.fact 41 (f := .meth "Bitmap" "__or__") rfl)
  have M_Bitmapdd_subdd : Meth K (He.ga K "Bitmap") "__sub__" (He.fAd K ("Bitmap", some "__sub__")) := He.meth_ok (c.fact 42 (f := .meth "Bitmap" "__sub__") rfl)
  have C_Bitmap : CF K "Bitmap" ["ends", "size"] := cfB_ok (c.more 0 (f := cfB "Bitmap" ["ends", "size"]) rfl)
  have D_Answer : DF K "Answer" [] ["rows", "yes", "no"] := dfB_ok (c.more 1 (f := dfB "Answer" [] ["rows", "yes", "no"]) rfl)
  have P_Answer_unknown : PropF K "Answer" "unknown" (uA K "Answer" "unknown") := propB_ok (c.more 2 (f := propB "Answer" "unknown") rfl)
  have R_BadAnswer : RsF K "BadAnswer" := rsB_ok (c.more 3 (f := rsB "BadAnswer") rfl)
  have R_BadBitmap : RsF K "BadBitmap" := rsB_ok (c.more 4 (f := rsB "BadBitmap") rfl)
  have R_SizesDiffer : RsF K "SizesDiffer" := rsB_ok (c.more 5 (f := rsB "SizesDiffer") rfl)
  have U_AND : TupG K "AND" [V.int 0, V.int 0, V.int 0, V.int 1] := tupG_ok (vs := [.int 0, .int 0, .int 0, .int 1]) (c.more 6 (f := fun K => He.tupB K "AND" [.int 0, .int 0, .int 0, .int 1]) rfl)
  have U_LESS : TupG K "LESS" [V.int 0, V.int 0, V.int 1, V.int 0] := tupG_ok (vs := [.int 0, .int 0, .int 1, .int 0]) (c.more 7 (f := fun K => He.tupB K "LESS" [.int 0, .int 0, .int 1, .int 0]) rfl)
  have U_OR : TupG K "OR" [V.int 0, V.int 1, V.int 1, V.int 1] := tupG_ok (vs := [.int 0, .int 1, .int 1, .int 1]) (c.more 8 (f := fun K => He.tupB K "OR" [.int 0, .int 1, .int 1, .int 1]) rfl)
  have X_BadAnswer : ExF K "BadAnswer" ["SliceError"] := exfB_ok (c.more 9 (f := exfB "BadAnswer" ["SliceError"]) rfl)
  have X_BadBitmap : ExF K "BadBitmap" ["SliceError"] := exfB_ok (c.more 10 (f := exfB "BadBitmap" ["SliceError"]) rfl)
  have X_SizesDiffer : ExF K "SizesDiffer" ["SliceError"] := exfB_ok (c.more 11 (f := exfB "SizesDiffer" ["SliceError"]) rfl)
  have X_SliceError : ExF K "SliceError" [] := exfB_ok (c.more 12 (f := exfB "SliceError" []) rfl)
  have F__law_draw := c.def_ 0 rfl
  have F__law_masks := c.def_ 1 rfl
  have F_Bitmapdd_initdd := c.def_ 2 rfl
  have F__law_bitmap := c.def_ 3 rfl
  have F_next_end := c.def_ 4 rfl
  have F_swept := c.def_ 5 rfl
  have F_Bitmap_paired := c.def_ 6 rfl
  have F_Bitmapdd_anddd := c.def_ 7 rfl
  have F_Bitmapdd_booldd := c.def_ 8 rfl
  have F_Bitmapdd_subdd := c.def_ 9 rfl
  have F_Answerdd_initdd := c.def_ 10 rfl
  have F__law_tried := c.def_ 11 rfl
  have F__law_good := c.def_ 12 rfl
  have F_Answer_unknown := c.def_ 13 rfl
  have F__law_is_number := c.def_ 14 rfl
  have F_Bitmapdd_containsdd := c.def_ 15 rfl
  have F__law_is := c.def_ 16 rfl
  have F_Answerdd_invertdd := c.def_ 17 rfl
  have F_Answer_surely := c.def_ 18 rfl
  have F_Bitmapdd_eqdd := c.def_ 19 rfl
  have F_Answerdd_eqdd := c.def_ 20 rfl
  have F_Bitmapdd_ordd := c.def_ 21 rfl
  have F_Answerdd_anddd := c.def_ 22 rfl
  have F_Answerdd_ordd := c.def_ 23 rfl
  have F__law_joined := c.def_ 24 rfl
  have F__law_alone := c.def_ 25 rfl
  have F__law_both := c.def_ 26 rfl
  have F_law := c.def_ 27 rfl
  have T : T0 hP K mg := ⟨n_abs, n_bool, n_int, n_isinstance, n_len, n_range, n_tuple, g_AND, g_Answer, g_BadAnswer, g_BadBitmap, g_Bitmap, g_LESS, g_OR, g_SizesDiffer, g_SliceError, g__law_alone, g__law_bitmap, g__law_both, g__law_draw, g__law_good, g__law_is, g__law_is_number, g__law_joined, g__law_masks, g__law_tried, g_law, g_next_end, g_swept, F__law_draw, (let ⟨_, F⟩ := F__law_draw; F.kp), F__law_masks, (let ⟨_, F⟩ := F__law_masks; F.kp), F_Bitmapdd_initdd, (let ⟨_, F⟩ := F_Bitmapdd_initdd; F.kp), F__law_bitmap, (let ⟨_, F⟩ := F__law_bitmap; F.kp), F_next_end, (let ⟨_, F⟩ := F_next_end; F.kp), F_swept, (let ⟨_, F⟩ := F_swept; F.kp), F_Bitmap_paired, (let ⟨_, F⟩ := F_Bitmap_paired; F.kp), F_Bitmapdd_anddd, (let ⟨_, F⟩ := F_Bitmapdd_anddd; F.kp), F_Bitmapdd_booldd, (let ⟨_, F⟩ := F_Bitmapdd_booldd; F.kp), F_Bitmapdd_subdd, (let ⟨_, F⟩ := F_Bitmapdd_subdd; F.kp), F_Answerdd_initdd, (let ⟨_, F⟩ := F_Answerdd_initdd; F.kp), F__law_tried, (let ⟨_, F⟩ := F__law_tried; F.kp), F__law_good, (let ⟨_, F⟩ := F__law_good; F.kp), F_Answer_unknown, (let ⟨_, F⟩ := F_Answer_unknown; F.kp), F__law_is_number, (let ⟨_, F⟩ := F__law_is_number; F.kp), F_Bitmapdd_containsdd, (let ⟨_, F⟩ := F_Bitmapdd_containsdd; F.kp), F__law_is, (let ⟨_, F⟩ := F__law_is; F.kp), F_Answerdd_invertdd, (let ⟨_, F⟩ := F_Answerdd_invertdd; F.kp), F_Answer_surely, (let ⟨_, F⟩ := F_Answer_surely; F.kp), F_Bitmapdd_eqdd, (let ⟨_, F⟩ := F_Bitmapdd_eqdd; F.kp), F_Answerdd_eqdd, (let ⟨_, F⟩ := F_Answerdd_eqdd; F.kp), F_Bitmapdd_ordd, (let ⟨_, F⟩ := F_Bitmapdd_ordd; F.kp), F_Answerdd_anddd, (let ⟨_, F⟩ := F_Answerdd_anddd; F.kp), F_Answerdd_ordd, (let ⟨_, F⟩ := F_Answerdd_ordd; F.kp), F__law_joined, (let ⟨_, F⟩ := F__law_joined; F.kp), F__law_alone, (let ⟨_, F⟩ := F__law_alone; F.kp), F__law_both, (let ⟨_, F⟩ := F__law_both; F.kp), F_law, (let ⟨_, F⟩ := F_law; F.kp), C_Bitmap, D_Answer, K_Answer, K_Bitmap, M_Answer_surely, M_Answerdd_anddd, M_Answerdd_eqdd, M_Answerdd_invertdd, M_Answerdd_ordd, M_Bitmap_paired, M_Bitmapdd_anddd, M_Bitmapdd_booldd, M_Bitmapdd_containsdd, M_Bitmapdd_eqdd, M_Bitmapdd_ordd, M_Bitmapdd_subdd, P_Answer_unknown, R_BadAnswer, R_BadBitmap, R_SizesDiffer, U_AND, U_LESS, U_OR, X_BadAnswer, X_BadBitmap, X_SizesDiffer, X_SliceError⟩
  obtain ⟨fd, F⟩ := F_law
  have e := hla.symm.trans g_law
  cases e
  have b := FunD.bindsA (ps := ["_law_script"]) F fun _ _ _ _ _ _ us hl => match us, hl with | [_], _ => rfl
  exact ⟨fd, fun s v => b s [v] rfl, fun base _ _ => ok_law T F⟩
end S
open PySem PySem.W PySem.Calls PyProof.Rows
theorem PySem.Challenge.cw_slicedcolumns_k46_answer_algebra_holds : PySem.Challenge.rw_slicedcolumns_k46_answer_algebra.Holds := by
  w_on; o_law
  refine HandSHeadRun.head_any (r := OpenLaw.row PySem.Challenge.rw_slicedcolumns_k46_answer_algebra) (q := view (OpenLaw.row PySem.Challenge.rw_slicedcolumns_k46_answer_algebra).prog [31]) (H := S.hhk) (ob := S.hob) (M := 16000) (loose := S.hloose) (d := HandSHeadRun.topDef (OpenLaw.row PySem.Challenge.rw_slicedcolumns_k46_answer_algebra).prog 31) (kwd := []) S.hob_eq
    (by kernel_rfl) (fun s => by kernel_rfl) S.hrun (by kernel_rfl) (by kernel_rfl) (by kernel_rfl) (by rfl) (by first | assumption | decide +kernel) (by decide +kernel) ⟨rfl, rfl, rfl, rfl, rfl, by decide +kernel⟩ ?hw ?hc
  case hw => w_witness2
  case hc =>
    refine L2.walk_ofE (l := PySem.Challenge.rw_slicedcolumns_k46_answer_algebra) (n := 63) (k := 10) (x := "_law_script") (CX := L2.CX0) rfl (by decide) (by kernel_rfl) ⟨rfl, by decide, by decide⟩ ?F (fun _ _ _ _ z => z)
    intro w mg fa h Y G hmg0
    obtain ⟨K, KX, c⟩ := Y
    have hmg : mg ("law" : PySem.Str) = some (.ref fa) := by
      have e : (HandSHeadRun.topDef (OpenLaw.row PySem.Challenge.rw_slicedcolumns_k46_answer_algebra).prog 31).name = ("law" : PySem.Str) := by kernel_rfl
      rw [← e]
      exact hmg0
    obtain ⟨fd, hb, hF⟩ := S.hfacts (w := w) KX G hmg c
    exact ⟨K, fd, S.sp_law K, KX, hb, fun H a ns hl _ hS => ⟨a, ns, rfl, hS, fun _ => rfl⟩, hF⟩
