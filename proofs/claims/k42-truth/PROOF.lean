import PyProof.Rows.All
import Wide.All
import OpenK.AllK
import Wide.FinOn
import HandS.ForMost
import HandS.ForExc
import HandS.TupAny
import HandS.IsInst
import HandS.Conv
import HandS.Defaults
import HandS.WideBits
import HandS.SortInts
import HandS.Slots
import HandS.Flow
import HandS.SlotsOwn
import HandS.Exc
import HandS.ExcOwn
import HandS.CallSlots
import HandS.ExcInit
import HandS.ExcIs
import KE.KExcIs
import KE.KExcSuper
import HandS.Head0
import HandS.Head1
import HandS.Head2
import HandS.HeadEnd
import HandS.HeadHook1
import HandS.HeadHook2
import KE.GoesEnum
import HandS.ExcField
import HandS.WideBits
import PyProof.StrReplace2
import KE.KOpsOwn
import HandS.Iter
import HandS.OwnEq
import HandS.Defaults
import HandS.MakeKwOnly
import HandS.TryOnly
import KE.SortCalls
import HandS.GenList
import HandS.Zip
import HandS.Strs
import HandS.TupSets
import PyProof.Rows.SetFrom
import PyProof.AutoSeq1
import PyProof.Rows.ChunkEnd
import HandS.IterNext
import HandS.OwnIter
import PyProof.NeKinds
import KE.SortData
import HandS.Deep
import HandS.Wide
import HandS.TryMany
import PyProof.WalksMore
import HandS.Text
import HandS.SortKw
import KE.DatumOrd
import HandS.MakeKw
import HandS.Dict
import HandS.DictComp
import HandS.More
import HandS.Small
import HandS.Conv
import KE.KDictPairs
import OpenK.KOps
import HandS.Nested
import KE.KSuper
import HandS.Style
import PySem.Challenge.RW_slicedcolumns_k42_truth
set_option Elab.async false
set_option linter.all false
set_option maxRecDepth 100000
set_option maxHeartbeats 4000000
namespace S
open PySem PySem.Spec PyProof.Rows L2
abbrev Frag := PySem.W.Frag
/-! ## readings that reduce -/
theorem PE.of {X : Cx} {e : Expr} {t t' : TE} (h : PE X e t) (i : ∀ σ H Q, t' σ H Q → t σ H Q) : PE X e t' := ⟨fun pins s σ H Q I q => h.run pins s σ H Q I (i σ H Q q)⟩
theorem PT.of {X : Cx} {e : Expr} {t t' : TT} (h : PT X e t) (i : ∀ σ H Q, t' σ H Q → t σ H Q) : PT X e t' := ⟨fun pins s σ H Q I q => h.run pins s σ H Q I (i σ H Q q)⟩
theorem PS.of {X : Cx} {e : Stmt} {t t' : TS} (h : PS X e t) (i : ∀ D σ H, t' D σ H → t D σ H) : PS X e t' := ⟨fun pins s σ H Q I q => h.run pins s σ H Q I (i Q σ H q)⟩
theorem OpR.of {X : Cx} {f : Value → Value → Sem Value} {r r' : R2} (h : OpR X f r) (i : ∀ x y H Q, r' x y H Q → r x y H Q) : OpR X f r' := fun pins s σ H x y v u Q I rx ry q => h pins s σ H x y v u Q I rx ry (i x y H Q q)
theorem IxR.of {X : Cx} {r r' : R2} (h : IxR X r) (i : ∀ x y H Q, r' x y H Q → r x y H Q) : IxR X r' := fun e1 e2 pins s σ H x y v u Q I rx ry q hs => h e1 e2 pins s σ H x y v u Q I rx ry (i x y H Q q) hs
theorem CallR.of {X : Cx} {f : Value} {r r' : List V → Hp → VK → Prop} (h : CallR X f r) (i : ∀ xs H Q, r' xs H Q → r xs H Q) : CallR X f r' := fun pins s σ H xs us Q I rx q => h pins s σ H xs us Q I rx (i xs H Q q)
def nth : L2.St → Nat → Option V
  | [], _ => none
  | x :: _, 0 => x
  | _ :: r, n + 1 => nth r n
theorem nth_ok : ∀ {σ : L2.St} {i : Nat} {v : V}, nth σ i = some v → σ[i]? = some (some v)
  | [], _, _, h => nomatch h
  | x :: _, 0, _, h => by
    have e : x = some _ := h
    rw [e]; rfl
  | _ :: r, n + 1, _, h => by
    have := nth_ok (σ := r) (i := n) h
    simpa using this
def SqA (K : Frag) (H : Hp) (p : Addr) (xs : List V) : Prop := SqL K H p xs ∨ SqT K H p xs
/-! ### points at which a reading waits for an answer -/
/-- a condition, then on -/
structure Need (c q : Prop) : Prop where
  c : c
  q : q
/-- the sequence at p is read -/
structure Rd (K : Frag) (H : Hp) (p : Addr) (k : List V → Prop) : Prop where
  ex : ∃ xs, SqA K H p xs ∧ k xs
theorem Rd.l {K : Frag} {H : Hp} {p : Addr} {k : List V → Prop} {xs : List V} (h : H p = some (.lst xs)) (q : k xs) : Rd K H p k := ⟨xs, .inl (SqL.of h), q⟩
theorem Rd.t {K : Frag} {H : Hp} {p : Addr} {k : List V → Prop} {xs : List V} (h : H p = some (.tup xs)) (q : k xs) : Rd K H p k := ⟨xs, .inr (SqT.of h), q⟩
theorem Rd.sl {K : Frag} {H : Hp} {p : Addr} {k : List V → Prop} {xs : List V} (h : SqL K H p xs) (q : k xs) : Rd K H p k := ⟨xs, .inl h, q⟩
theorem Rd.st {K : Frag} {H : Hp} {p : Addr} {k : List V → Prop} {xs : List V} (h : SqT K H p xs) (q : k xs) : Rd K H p k := ⟨xs, .inr h, q⟩
theorem Rd.sa {K : Frag} {H : Hp} {p : Addr} {k : List V → Prop} {xs : List V} (h : SqA K H p xs) (q : k xs) : Rd K H p k := ⟨xs, h, q⟩
/-- the item at i -/
structure At (xs : List V) (i : Int) (k : V → Prop) : Prop where
  ex : ∃ v, atI xs i = some v ∧ k v
theorem At.of {xs : List V} {i : Int} {k : V → Prop} {v : V} (h : atI xs i = some v) (q : k v) : At xs i k := ⟨v, h, q⟩
/-- the list at p is to be changed -/
structure Ls (H : Hp) (p : Addr) (k : List V → Prop) : Prop where
  ex : ∃ xs, H p = some (.lst xs) ∧ k xs
theorem Ls.of {H : Hp} {p : Addr} {k : List V → Prop} {xs : List V} (h : H p = some (.lst xs)) (q : k xs) : Ls H p k := ⟨xs, h, q⟩
/-- a new list; a new tuple, or one that stands -/
structure NewL (H : Hp) (ys : List V) (Q : V → Hp → Prop) : Prop where
  go : ∀ p, H p = none → Q (.ref p) (upd H p (.lst ys))
structure NewT (K : Frag) (H : Hp) (ys : List V) (Q : V → Hp → Prop) : Prop where
  go : ∀ p H', Same H H' → SqT K H' p ys → Q (.ref p) H'
def onSome (o : Option V) (k : V → Prop) : Prop := match o with
  | some v => k v
  | none => False
def dVar (i : Nat) : TE := fun σ H Q => onSome (nth σ i) fun v => Q v H
theorem pv {X : Cx} (i : Nat) {x : Str} {pos : Pos} (hN : X.N[i]? = some x := by rfl) (hv : Vis X.env.scope x := by first | exact Or.inl rfl | exact Or.inr (Or.inl rfl) | exact Or.inr (Or.inr rfl)) (hd : (x == ("__debug__" : Str)) = false := by decide)
    (hcd : (x == ("__classdict__" : Str)) = false := by decide) : PE X (.Name x pos) (dVar i) := PE.of (pe_var hN hv hd hcd) fun σ H Q q => by
  unfold dVar onSome at q
  cases e : nth σ i with
  | none => rw [e] at q; exact q.elim
  | some v => rw [e] at q; exact ⟨v, nth_ok e, q⟩
/-- two ways by a bool -/
def bIf (b : Bool) (A B : Prop) : Prop := match b with
  | true => A
  | false => B
theorem bIf_of {b : Bool} {A B : Prop} (h : bIf b A B) : if b = true then A else B := by
  cases b with
  | true => exact iteT h
  | false => exact iteF h
theorem ifb {b : Bool} {A B : Prop} (h1 : b = true → A) (h2 : b = false → B) : bIf b A B := by
  cases b with
  | true => exact h1 rfl
  | false => exact h2 rfl
theorem ifd {c : Prop} [Decidable c] {A B : Prop} (h1 : c → A) (h2 : ¬ c → B) : bIf (decide c) A B := ifb (fun h => h1 (of_decide_eq_true h)) fun h => h2 (of_decide_eq_false h)
theorem ifn {c : Prop} [Decidable c] {A B : Prop} (h1 : ¬ c → A) (h2 : c → B) : bIf (!decide c) A B := ifb (fun h => h1 (by simpa using h)) fun h => h2 (by simpa using h)
theorem ift {c : Prop} [Decidable c] {A B : Prop} (hc : c) (h1 : A) : bIf (decide c) A B := by rw [decide_eq_true hc]; exact h1
theorem iff' {c : Prop} [Decidable c] {A B : Prop} (hc : ¬ c) (h1 : B) : bIf (decide c) A B := by rw [decide_eq_false hc]; exact h1
theorem ifnt {c : Prop} [Decidable c] {A B : Prop} (hc : ¬ c) (h1 : A) : bIf (!decide c) A B := by rw [decide_eq_false hc]; exact h1
theorem ifnf {c : Prop} [Decidable c] {A B : Prop} (hc : c) (h1 : B) : bIf (!decide c) A B := by rw [decide_eq_true hc]; exact h1
/-! ### tests -/
def dTru (K : Frag) (x : V) (H : Hp) (Q : Bool → Prop) : Prop := match x with
  | .bl b => Q b
  | .non => Q false
  | .int i => Q (decide (i ≠ 0))
  | .str z => Need (z.length ≤ sizeLine) (Q (decide (z.length ≠ 0)))
  | .ref p => Rd K H p fun xs => Q (decide (xs ≠ []))
  | _ => False
def dTest (K : Frag) (ta : TE) : TT := fun σ H Q => ta σ H fun x H1 => dTru K x H1 fun b => Q b H1
theorem pt_of {X : Cx} {a : Expr} {ta : TE} (ha : PE X a ta) (he : ∀ whole, isTrue a X.env whole = (do let v ← whole; standAt a.pos; holding [v] (truthy v)) := by intro _; rfl) : PT X a (dTest X.K ta) := by
  refine ⟨fun pins s σ H Q I h => ?_⟩
  refine isTrue_plain (thn (ha.run pins s σ H _ I h) fun v s1 ⟨x, H1, I1, r1, q1⟩ => ?_) (he _)
  cases x with
  | bl b =>
    exact tru_ok pins s1 σ H1 (.bl b) v Q I1 r1 ⟨b, rfl, q1⟩
  | non =>
    exact tru_ok pins s1 σ H1 .non v Q I1 r1 ⟨false, rfl, q1⟩
  | int i =>
    refine tru_ok pins s1 σ H1 (.int i) v Q I1 r1 ⟨_, rfl, ?_⟩
    have e : (i != 0) = decide (i ≠ 0) := by by_cases h : i = 0 <;> simp [h]
    rw [e]; exact q1
  | str z =>
    refine tru_ok pins s1 σ H1 (.str z) v Q I1 r1 ⟨_, ⟨q1.c, rfl⟩, ?_⟩
    have e : ((z.length : Int) != 0) = decide (z.length ≠ 0) := by by_cases h : z.length = 0 <;> simp [h]
    rw [e]; exact q1.q
  | ref p =>
    obtain ⟨⟨xs, hx, q⟩⟩ := q1
    have e : (!xs.isEmpty) = decide (xs ≠ []) := by cases xs <;> simp
    rcases hx with hx | hx
    · refine tru_ok pins s1 σ H1 (.ref p) v Q I1 r1 ⟨_, .inl ⟨xs, hx, rfl⟩, ?_⟩
      rw [e]; exact q
    · refine tru_ok pins s1 σ H1 (.ref p) v Q I1 r1 ⟨_, .inr (.inl ⟨xs, hx, rfl⟩), ?_⟩
      rw [e]; exact q
  | _ => exact q1.elim
def dAnd (t u : TT) : TT := fun σ H Q => t σ H fun c H1 => bIf c (u σ H1 Q) (Q false H1)
def dOr (t u : TT) : TT := fun σ H Q => t σ H fun c H1 => bIf c (Q true H1) (u σ H1 Q)
def dNot (t : TT) : TT := fun σ H Q => t σ H fun c H1 => Q (!c) H1
def dIfE (t : TT) (ta tb : TE) : TE := fun σ H Q => t σ H fun c H1 => bIf c (ta σ H1 Q) (tb σ H1 Q)
def dIfS (c : TT) (t u : TS) : TS := fun D σ H => c σ H fun b H1 => bIf b (t D σ H1) (u D σ H1)

/-! ### operators by the values -/
def int2 (k : Int → Int → Prop) (x y : V) : Prop := match x, y with
  | .int i, .int j => k i j
  | _, _ => False
/-- two lists, two tuples one behind the other -/
structure Cat (K : Frag) (H : Hp) (a b : Addr) (Q : V → Hp → Prop) : Prop where
  ex : (∃ xs zs, H a = some (.lst xs) ∧ H b = some (.lst zs) ∧ xs.length + zs.length ≤ sizeLine ∧ ∀ p, H p = none → Q (.ref p) (upd H p (.lst (xs ++ zs)))) ∨
     (∃ xs ys, SqT K H a xs ∧ SqT K H b ys ∧ xs.length + ys.length ≤ sizeLine ∧ ∀ p H', Same H H' → SqT K H' p (xs ++ ys) → Q (.ref p) H')
theorem Cat.l {K : Frag} {H : Hp} {a b : Addr} {Q : V → Hp → Prop} {xs zs : List V} (h : H a = some (.lst xs)) (h2 : H b = some (.lst zs)) (hz : xs.length + zs.length ≤ sizeLine) (q : ∀ p, H p = none → Q (.ref p) (upd H p (.lst (xs ++ zs)))) : Cat K H a b Q := ⟨.inl ⟨xs, zs, h, h2, hz, q⟩⟩
theorem Cat.t {K : Frag} {H : Hp} {a b : Addr} {Q : V → Hp → Prop} {xs ys : List V} (h : SqT K H a xs) (h2 : SqT K H b ys) (hz : xs.length + ys.length ≤ sizeLine) (q : ∀ p H', Same H H' → SqT K H' p (xs ++ ys) → Q (.ref p) H') : Cat K H a b Q := ⟨.inr ⟨xs, ys, h, h2, hz, q⟩⟩
def oAdd (K : Frag) : R2 := fun x y H Q => match x, y with
  | .int i, .int j => Q (.int (i + j)) H
  | .str a, .str b => Need (a.length + b.length ≤ sizeLine) (Q (.str (a ++ b)) H)
  | .ref a, .ref b => Cat K H a b Q
  | _, _ => False
theorem same_new {H : Hp} {p : Addr} {o : HO} (h : H p = none) : Same H (upd H p o) := fun b u e => by rw [upd_ne (ne_of_none e h)]; exact e
theorem o_add {X : Cx} : OpR X (binaryOp .Add) (oAdd X.K) := OpR.of (op_add.or (op_add_str.or (op_cat.or op_catA))) fun x y H Q q => by
  cases x <;> cases y <;> try exact q.elim
  · exact .inl ⟨_, _, rfl, rfl, q⟩
  · exact .inr (.inl ⟨_, _, rfl, rfl, q.c, q.q⟩)
  · rcases q.ex with ⟨xs, zs, h1, h2, h3, q⟩ | ⟨xs, ys, h1, h2, h3, q⟩
    · exact .inr (.inr (.inl ⟨_, _, xs, zs, rfl, rfl, h1, h2, h3, q⟩))
    · refine .inr (.inr (.inr ⟨_, _, xs, ys, rfl, rfl, h1, h2, h3, fun e => ?_, fun _ e => ?_, fun _ _ p hp => ?_⟩))
      · subst e; exact q _ _ (Same.refl _) h2
      · subst e; exact q _ _ (Same.refl _) (by rw [List.append_nil]; exact h1)
      · exact q _ _ (same_new hp) (SqT.of upd_same)
def oI (C : Int → Int → Prop) (g : Int → Int → Int) : R2 := fun x y H Q => int2 (fun i j => Need (C i j) (Q (.int (g i j)) H)) x y
def oI0 (g : Int → Int → Int) : R2 := fun x y H Q => int2 (fun i j => Q (.int (g i j)) H) x y
theorem oI_of {X : Cx} {f : Value → Value → Sem Value} {C : Int → Int → Prop} {g : Int → Int → Int} (h : OpR X f (rI C fun i j => .int (g i j))) : OpR X f (oI C g) := OpR.of h fun x y H Q q => by
  cases x <;> cases y <;> try exact q.elim
  exact ⟨_, _, rfl, rfl, q.c, q.q⟩
theorem oI0_of {X : Cx} {f : Value → Value → Sem Value} {g : Int → Int → Int} (h : OpR X f (rI0 fun i j => .int (g i j))) : OpR X f (oI0 g) := OpR.of h fun x y H Q q => by
  cases x <;> cases y <;> try exact q.elim
  exact ⟨_, _, rfl, rfl, q⟩
def oSub : R2 := oI0 fun i j => i - j
theorem o_sub {X : Cx} : OpR X (binaryOp .Sub) oSub := oI0_of op_sub
def oMul : R2 := oI CMul fun i j => i * j
theorem o_mul {X : Cx} : OpR X (binaryOp .Mult) oMul := oI_of op_mul
def oFdiv : R2 := oI CDiv fun i j => i / j
theorem o_fdiv {X : Cx} : OpR X (binaryOp .FloorDiv) oFdiv := oI_of op_fdiv
def oMod : R2 := oI (fun _ j => 0 < j) fun i j => i % j
theorem o_mod {X : Cx} : OpR X (binaryOp .Mod) oMod := oI_of op_mod
def oPow : R2 := oI CPow fun i j => i ^ j.toNat
theorem o_pow {X : Cx} : OpR X (binaryOp .Pow) oPow := oI_of op_pow
def oAnd : R2 := oI0 fun i j => Builtin.bitAnd i j
theorem o_and {X : Cx} : OpR X (binaryOp .BitAnd) oAnd := oI0_of op_and
def oShl : R2 := oI CPow fun i j => i * 2 ^ j.toNat
theorem o_shl {X : Cx} : OpR X (binaryOp .LShift) oShl := oI_of op_shl
def oShr : R2 := oI (fun _ j => 0 ≤ j) fun i j => i / 2 ^ j.toNat
theorem o_shr {X : Cx} : OpR X (binaryOp .RShift) oShr := oI_of op_shr
def uNeg : V → Hp → VK → Prop := fun x H Q => match x with
  | .int i => Q (.int (-i)) H
  | _ => False
theorem u_neg {X : Cx} : UnR X (unaryOp .USub) uNeg := fun pins s σ H x v Q I rx q => by
  cases x <;> try exact q.elim
  exact un_neg pins s σ H _ v Q I rx ⟨_, rfl, q⟩
def oC (g : Int → Int → Bool) : R2 := fun x y H Q => int2 (fun i j => Q (.bl (g i j)) H) x y
theorem oC_of {X : Cx} {f : Value → Value → Sem Value} {g : Int → Int → Bool} (h : OpR X f (rI0 fun i j => .bl (g i j))) : OpR X f (oC g) := OpR.of h fun x y H Q q => by
  cases x <;> cases y <;> try exact q.elim
  exact ⟨_, _, rfl, rfl, q⟩
def oLt : R2 := oC fun i j => decide (i < j)
def oLe : R2 := oC fun i j => decide (i ≤ j)
def oGt : R2 := oC fun i j => decide (j < i)
def oGe : R2 := oC fun i j => decide (j ≤ i)
theorem o_lt {X : Cx} : OpR X (compareOp .Lt) oLt := oC_of op_lt
theorem o_le {X : Cx} : OpR X (compareOp .LtE) oLe := oC_of op_le
theorem o_gt {X : Cx} : OpR X (compareOp .Gt) oGt := oC_of op_gt
theorem o_ge {X : Cx} : OpR X (compareOp .GtE) oGe := oC_of op_ge
def oIsN : R2 := fun x y H Q => y = .non ∧ Q (.bl (match x with | .non => true | _ => false)) H
def oNotN : R2 := fun x y H Q => y = .non ∧ Q (.bl (match x with | .non => false | _ => true)) H
theorem o_isN {X : Cx} : OpR X (compareOp .Is) oIsN := OpR.of op_isN fun x y H Q q => ⟨q.1, by cases x <;> exact q.2⟩
theorem o_notN {X : Cx} : OpR X (compareOp .IsNot) oNotN := OpR.of op_notN fun x y H Q q => ⟨q.1, by cases x <;> exact q.2⟩
/-- two data compared -/
structure EqD (K : Frag) (H : Hp) (x y : V) (k : Bool → Prop) : Prop where
  ex : ∃ d e, Dp K H x d ∧ Dp K H y e ∧ SeqAt.shaped d = true ∧ SeqAt.shaped e = true ∧ k (PyData.eqv d e)
/-- == of scalars and of data -/
def oEq (K : Frag) : R2 := fun x y H Q => match x, y with
  | .int i, .int j => Q (.bl (decide (i = j))) H
  | .str i, .str j => Q (.bl (decide (i = j))) H
  | .bl i, .bl j => Q (.bl (decide (i = j))) H
  | .non, .non => Q (.bl true) H
  | .non, .int _ => Q (.bl false) H
  | .int _, .non => Q (.bl false) H
  | .non, .bl _ => Q (.bl false) H
  | .bl _, .non => Q (.bl false) H
  | .non, .str _ => Q (.bl false) H
  | .str _, .non => Q (.bl false) H
  | .int _, .str _ => Q (.bl false) H
  | .str _, .int _ => Q (.bl false) H
  | x, y => EqD K H x y fun b => Q (.bl b) H
def oNe (K : Frag) : R2 := fun x y H Q => oEq K x y H fun v H' => match v with
  | .bl b => Q (.bl (!b)) H'
  | _ => False
theorem o_eq {X : Cx} (hu : X.A.units + 64 < cLine) : OpR X (compareOp .Eq) (oEq X.K) := OpR.of (op_eq.or (op_eqD hu)) fun x y H Q q => by
  cases x <;> cases y <;> first
    | exact .inr q.ex
    | (refine .inl ⟨rfl, ?_⟩; refine Eq.mp (congrArg (fun b => Q (V.bl b) H) ?_) q; simp)
theorem o_ne {X : Cx} (hu : X.A.units + 64 < cLine) : OpR X (compareOp .NotEq) (oNe X.K) := OpR.of (op_ne.or (op_neD hu)) fun x y H Q q => by
  cases x <;> cases y <;> first
    | exact .inr q.ex
    | (refine .inl ⟨rfl, ?_⟩; refine Eq.mp (congrArg (fun b => Q (V.bl b) H) ?_) q; simp)
/-! ### comparisons as tests, chains -/
def dCmp (r : R2) (ta tb : TE) : TE := tOp r ta tb
def isB (Q : Bool → Hp → Prop) : VK := fun z H => match z with
  | .bl k => Q k H
  | _ => False
theorem isB_ex {Q : Bool → Hp → Prop} {z : V} {H : Hp} (h : isB Q z H) : ∃ k, z = .bl k ∧ Q k H := by
  cases z <;> try exact h.elim
  exact ⟨_, rfl, h⟩
def dCmpT (r : R2) (ta tb : TE) : TT := fun σ H Q => ta σ H fun x H1 => tb σ H1 fun y H2 => r x y H2 (isB Q)
theorem pt_cmp {X : Cx} {op : CmpOp} {a b : Expr} {ta tb : TE} {pos : Pos} {r : R2} (ho : OpR X (compareOp op) r) (ha : PE X a ta) (hb : PE X b tb) (hm : behindInMarks op b = false) : PT X (.Compare a [op] [b] pos) (dCmpT r ta tb) := by
  refine ⟨fun pins s σ H Q I h => ?_⟩
  refine wpAny_isTrue_Compare1 (thn (ha.run pins s σ H _ I h) fun v s1 ⟨x, H1, I1, r1, q1⟩ => thn (hb.run pins s1 σ H1 _ I1 q1) fun u s2 ⟨y, H2, I2, r2, q2⟩ =>
    thn (ho pins s2 σ H2 x y v u _ I2 r1 r2 q2) fun c s3 ⟨z, H3, I3, r3, q3⟩ => ?_) hm
  obtain ⟨k, e, q3⟩ := isB_ex q3
  subst e
  cases r3
  exact wpAny_truthy_bool ⟨H3, I3, q3⟩
def dChain (r r' : R2) (ta tb tc : TE) : TE := fun σ H Q => ta σ H fun x H1 => tb σ H1 fun y H2 => r x y H2 (isB fun k H3 => bIf k (tc σ H3 fun w' H4 => r' y w' H4 Q) (Q (.bl false) H3))
def dChainT (r r' : R2) (ta tb tc : TE) : TT := fun σ H Q => dChain r r' ta tb tc σ H (isB Q)
theorem pe_cmp {X : Cx} {op : CmpOp} {a b : Expr} {ta tb : TE} {pos : Pos} {r : R2} (ho : OpR X (compareOp op) r) (ha : PE X a ta) (hb : PE X b tb) (hm : behindInMarks op b = false) : PE X (.Compare a [op] [b] pos) (tOp r ta tb) := pe_cmpR ho ha hb hm
theorem pe_chain {X : Cx} {op op' : CmpOp} {a b c : Expr} {r r' : R2} {ta tb tc : TE} {pos : Pos} (ho : OpR X (compareOp op) r) (ho' : OpR X (compareOp op') r') (ha : PE X a ta) (hb : PE X b tb) (hc : PE X c tc)
    (hm : lastMarks [op, op'] [b, c] = false := by with_unfolding_all rfl) : PE X (.Compare a [op, op'] [b, c] pos) (dChain r r' ta tb tc) := by
  refine ⟨fun pins s σ H Q I h => ?_⟩
  refine Compare_chain (thn (ha.run pins s σ H _ I h) fun v s1 ⟨x, H1, I1, r1, q1⟩ => chain_link (thn (hb.run pins s1 σ H1 _ I1 q1) fun u s2 ⟨y, H2, I2, r2, q2⟩ =>
    thn (ho pins s2 σ H2 x y v u _ I2 r1 r2 q2) fun d s3 ⟨z, H3, I3, r3, q3⟩ => ?_)) hm
  obtain ⟨k, e, q3⟩ := isB_ex q3
  subst e
  cases r3
  refine wpAny_truthy_bool ?_
  cases k with
  | false => exact ite_ff ⟨.bl false, H3, I3, rfl, q3⟩
  | true => exact ite_tt (chain_last (thn (hc.run pins s3 σ H3 _ I3 q3) fun w' s4 ⟨z', H4, I4, r4, q4⟩ => ho' pins s4 σ H4 y z' u w' Q I4 r2 r4 q4))
theorem pt_chain {X : Cx} {op op' : CmpOp} {a b c : Expr} {r r' : R2} {ta tb tc : TE} {pos : Pos} (ho : OpR X (compareOp op) r) (ho' : OpR X (compareOp op') r') (ha : PE X a ta) (hb : PE X b tb) (hc : PE X c tc)
    (hm : lastMarks [op, op'] [b, c] = false := by with_unfolding_all rfl) : PT X (.Compare a [op, op'] [b, c] pos) (dChainT r r' ta tb tc) := by
  refine ⟨fun pins s σ H Q I h => ?_⟩
  refine isTrue_chain (thn (ha.run pins s σ H _ I h) fun v s1 ⟨x, H1, I1, r1, q1⟩ => test_link (thn (hb.run pins s1 σ H1 _ I1 q1) fun u s2 ⟨y, H2, I2, r2, q2⟩ =>
    thn (ho pins s2 σ H2 x y v u _ I2 r1 r2 q2) fun d s3 ⟨z, H3, I3, r3, q3⟩ => ?_)) hm
  obtain ⟨k, e, q3⟩ := isB_ex q3
  subst e
  cases r3
  refine wpAny_truthy_bool ?_
  cases k with
  | false => exact ite_ff ⟨H3, I3, q3⟩
  | true =>
    refine ite_tt (test_last (thn (hc.run pins s3 σ H3 _ I3 q3) fun w' s4 ⟨z', H4, I4, r4, q4⟩ => thn (ho' pins s4 σ H4 y z' u w' _ I4 r2 r4 q4) fun d' s5 ⟨z2, H5, I5, r5, q5⟩ => ?_))
    obtain ⟨k2, e2, q5⟩ := isB_ex q5
    subst e2
    cases r5
    exact wpAny_truthy_bool ⟨H5, I5, q5⟩
theorem pw_and {X : Cx} {a b : Expr} {rest : List Expr} {tA tB' : TT} {pos : Pos} (ha : PT X a tA) (hb : PW X (.BoolOp .And (b :: rest) pos) tB') : PW X (.BoolOp .And (a :: b :: rest) pos) (dAnd tA tB') := by
  refine ⟨fun wh pins s σ H Q I h => ?_⟩
  refine isTrue_and (thn (ha.run pins s σ H _ I h) fun c s1 ⟨H1, I1, q1⟩ => ?_)
  cases c with
  | true => exact hb.run wh pins s1 σ H1 Q I1 q1
  | false => exact ⟨H1, I1, q1⟩
theorem pw_or {X : Cx} {a b : Expr} {rest : List Expr} {tA tB' : TT} {pos : Pos} (ha : PT X a tA) (hb : PW X (.BoolOp .Or (b :: rest) pos) tB') : PW X (.BoolOp .Or (a :: b :: rest) pos) (dOr tA tB') := by
  refine ⟨fun wh pins s σ H Q I h => ?_⟩
  refine isTrue_or (thn (ha.run pins s σ H _ I h) fun c s1 ⟨H1, I1, q1⟩ => ?_)
  cases c with
  | true => exact ⟨H1, I1, q1⟩
  | false => exact hb.run wh pins s1 σ H1 Q I1 q1
theorem pt_not {X : Cx} {a : Expr} {tA : TT} {pos : Pos} (ha : PT X a tA) : PT X (.UnaryOp .Not a pos) (dNot tA) := L2.pt_not ha
theorem pe_ifE {X : Cx} {c a b : Expr} {tA : TT} {ta tb : TE} {pos : Pos} (hc : PT X c tA) (ha : PE X a ta) (hb : PE X b tb) : PE X (.IfExp c a b pos) (dIfE tA ta tb) := by
  refine ⟨fun pins s σ H Q I h => ?_⟩
  refine wpAny_IfExp (thn (hc.run pins s σ H _ I h) fun d s1 ⟨H1, I1, q1⟩ => ?_)
  cases d with
  | true => exact ha.run pins s1 σ H1 Q I1 q1
  | false => exact hb.run pins s1 σ H1 Q I1 q1
theorem ps_if {X : Cx} {c : Expr} {a b : List Stmt} {tc : TT} {t u : TS} {pos : Pos} (hc : PT X c tc) (ha : PSs X a t) (hb : PSs X b u) : PS X (.If c a b pos) (dIfS tc t u) := by
  refine ⟨fun pins s σ H D I h => ?_⟩
  refine wpAny_If (thn (hc.run pins s σ H _ I h) fun d s1 ⟨H1, I1, q1⟩ => ?_)
  cases d with
  | true => exact ha.run pins s1 σ H1 D I1 q1
  | false => exact hb.run pins s1 σ H1 D I1 q1
/-- and, or as values: all but the last True or False -/
def dAndV (ta tb : TE) : TE := fun σ H Q => ta σ H (isB fun c H1 => bIf c (tb σ H1 Q) (Q (.bl false) H1))
def dOrV (ta tb : TE) : TE := fun σ H Q => ta σ H (isB fun c H1 => bIf c (Q (.bl true) H1) (tb σ H1 Q))
def dNotV (ta : TE) : TE := fun σ H Q => ta σ H (isB fun c H1 => Q (.bl (!c)) H1)
theorem pe_and {X : Cx} {a b : Expr} {rest : List Expr} {ta tb : TE} {pos : Pos} (ha : PE X a ta) (hb : PE X (.BoolOp .And (b :: rest) pos) tb) : PE X (.BoolOp .And (a :: b :: rest) pos) (dAndV ta tb) := by
  refine ⟨fun pins s σ H Q I h => ?_⟩
  refine BoolOp_and (thn (ha.run pins s σ H _ I h) fun v s1 ⟨x, H1, I1, r1, q1⟩ => ?_)
  obtain ⟨c, e, q⟩ := isB_ex q1
  subst e
  cases r1
  refine wpAny_truthy_bool ?_
  cases c with
  | true => exact hb.run pins s1 σ H1 Q I1 q
  | false => exact ⟨.bl false, H1, I1, rfl, q⟩
theorem pe_or {X : Cx} {a b : Expr} {rest : List Expr} {ta tb : TE} {pos : Pos} (ha : PE X a ta) (hb : PE X (.BoolOp .Or (b :: rest) pos) tb) : PE X (.BoolOp .Or (a :: b :: rest) pos) (dOrV ta tb) := by
  refine ⟨fun pins s σ H Q I h => ?_⟩
  refine BoolOp_or (thn (ha.run pins s σ H _ I h) fun v s1 ⟨x, H1, I1, r1, q1⟩ => ?_)
  obtain ⟨c, e, q⟩ := isB_ex q1
  subst e
  cases r1
  refine wpAny_truthy_bool ?_
  cases c with
  | true => exact ⟨.bl true, H1, I1, rfl, q⟩
  | false => exact hb.run pins s1 σ H1 Q I1 q
theorem pe_not {X : Cx} {a : Expr} {ta : TE} {pos : Pos} (ha : PE X a ta) : PE X (.UnaryOp .Not a pos) (dNotV ta) := by
  refine ⟨fun pins s σ H Q I h => ?_⟩
  refine UnaryOp_ (thn (ha.run pins s σ H _ I h) fun v s1 ⟨x, H1, I1, r1, q1⟩ => ?_)
  obtain ⟨c, e, q⟩ := isB_ex q1
  subst e
  cases r1
  exact not_of (wpAny_truthy_bool ⟨.bl (!c), H1, I1, rfl, q⟩)
/-! ### subscripts, slices -/
/-- the sign at i -/
structure AtS (z : Str) (i : Int) (k : Nat → Prop) : Prop where
  ex : ∃ c, atI z.cps.toList i = some c ∧ k c
def oIx (K : Frag) : R2 := fun x y H Q => match x, y with
  | .ref p, .int i => Rd K H p fun xs => At xs i fun v => Q v H
  | .str z, .int i => Need (z.length ≤ sizeLine) (AtS z i fun c => Q (.str ⟨#[c]⟩) H)
  | _, _ => False
theorem ix_any {X : Cx} : IxR X (oIx X.K) := IxR.of ix_seq fun x y H Q q => by
  cases x <;> cases y <;> try exact q.elim
  · obtain ⟨hz, ⟨c, e, q⟩⟩ := q
    exact .inr (.inr ⟨_, _, c, rfl, rfl, hz, e, q⟩)
  · obtain ⟨⟨xs, hs, ⟨v, e, q⟩⟩⟩ := q
    rcases hs with hs | hs
    · exact .inl ⟨_, xs, _, v, rfl, rfl, hs, e, q⟩
    · exact .inr (.inl ⟨_, xs, _, v, rfl, rfl, hs, e, q⟩)
def dPart (t : TE) : TO := fun σ H Q => t σ H fun x H1 => match x with
  | .int i => Q (some i) H1
  | _ => False
theorem po_some {X : Cx} {e : Expr} {te : TE} (h : PE X e te) : PO X (some e) (dPart te) := by
  refine ⟨fun pins s σ H Q I q => ?_⟩
  rw [evalPart_some]
  refine thn (h.run pins s σ H _ I q) fun u s1 ⟨x, H1, I1, r1, q1⟩ => ?_
  cases x <;> try exact q1.elim
  obtain ⟨t, rfl⟩ := r1
  exact ⟨_, H1, I1, .int _ t, q1⟩
/-- a slice of the list, of the tuple at p -/
structure Cut (K : Frag) (H : Hp) (p : Addr) (lo hi : Option Int) (Q : V → Hp → Prop) : Prop where
  ex : (∃ xs, SqL K H p xs ∧ ∀ q, H q = none → Q (.ref q) (upd H q (.lst (cutV xs lo hi)))) ∨ (∃ xs, SqT K H p xs ∧ ∀ q H', Same H H' → SqT K H' q (cutV xs lo hi) → Q (.ref q) H')
theorem Cut.l {K : Frag} {H : Hp} {p : Addr} {lo hi : Option Int} {Q : V → Hp → Prop} {xs : List V} (h : SqL K H p xs) (q : ∀ q, H q = none → Q (.ref q) (upd H q (.lst (cutV xs lo hi)))) : Cut K H p lo hi Q := ⟨.inl ⟨xs, h, q⟩⟩
theorem Cut.t {K : Frag} {H : Hp} {p : Addr} {lo hi : Option Int} {Q : V → Hp → Prop} {xs : List V} (h : SqT K H p xs) (q : ∀ q H', Same H H' → SqT K H' q (cutV xs lo hi) → Q (.ref q) H') : Cut K H p lo hi Q := ⟨.inr ⟨xs, h, q⟩⟩
def oSl (K : Frag) : V → Option Int → Option Int → Hp → VK → Prop := fun x lo hi H Q => match x with
  | .ref p => Cut K H p lo hi Q
  | _ => False
theorem SlR.of {X : Cx} {r r' : V → Option Int → Option Int → Hp → VK → Prop} (h : SlR X r) (i : ∀ x l u H Q, r' x l u H Q → r x l u H Q) : SlR X r' := fun pins s σ H x v vl vu lo hi sl Q I rx hs pl pu q => h pins s σ H x v vl vu lo hi sl Q I rx hs pl pu (i x lo hi H Q q)
theorem cut_whole {xs : List V} {lo hi : Option Int} (h : HT.sIx xs.length 0 lo = 0 ∧ HT.sIx xs.length xs.length hi = xs.length) : cutV xs lo hi = xs := by
  unfold cutV
  rw [h.1, h.2]
  simp
theorem sl_any {X : Cx} : SlR X (oSl X.K) := SlR.of (sl_list.or sl_tupA) fun x lo hi H Q q => by
  cases x <;> try exact q.elim
  rcases q.ex with ⟨xs, h, q⟩ | ⟨xs, h, q⟩
  · exact .inl ⟨_, xs, rfl, h, q⟩
  · refine .inr ⟨_, xs, rfl, h, fun w => ?_, fun _ p hp => q _ _ (same_new hp) (SqT.of upd_same)⟩
    exact q _ _ (Same.refl _) (by rw [cut_whole w]; exact h)
/-! ### displays -/
def dLst (t : TA) : TE := fun σ H Q => t σ H fun xs H1 => Need (xs.length ≤ sizeLine) (NewL H1 xs Q)
def dTup (K : Frag) (t : TA) : TE := fun σ H Q => t σ H fun xs H1 => Need (xs.length ≤ sizeLine) (NewT K H1 xs Q)
theorem pe_tup {X : Cx} {es : List Expr} {t : TA} {x1} {pos : Pos} (h : PA X es t) : PE X (.Tuple es x1 pos) (dTup X.K t) := by
  refine ⟨fun pins s σ H Q I hq => ?_⟩
  refine wpAny_Tuple_spliced (thn (h.run pos pins s σ H _ I hq) fun us s1 ⟨xs, H1, I1, r, ⟨z, ⟨q⟩⟩⟩ => ⟨by rw [← r.length]; exact z, ?_⟩)
  have hf : H1 s1.heap.objs.size = none := I1.hok.fresh (Nat.le_refl _)
  refine ⟨.ref s1.heap.objs.size, upd H1 s1.heap.objs.size (.tup xs), I1.laid (t' := s1.toks) (fun b u e => Heap.get?_push_of_some _ e) (Nat.le_refl _) ?_, rfl, q _ _ (same_new hf) (SqT.of upd_same)⟩
  exact ⟨z, us, r, ⟨_, Heap.get?_push_size _ rfl, rfl, _, rfl⟩⟩
theorem pe_lst {X : Cx} {es : List Expr} {t : TA} {pos : Pos} (h : PA X es t) : PE X (.List es pos) (dLst t) := by
  refine ⟨fun pins s σ H Q I hq => ?_⟩
  refine wpAny_List_spliced (thn (h.run pos pins s σ H _ I hq) fun us s1 ⟨xs, H1, I1, r, ⟨z, ⟨q⟩⟩⟩ => ⟨by rw [← r.length]; exact z, ?_⟩)
  have hf : H1 s1.heap.objs.size = none := I1.hok.fresh (Nat.le_refl _)
  refine ⟨.ref s1.heap.objs.size, upd H1 s1.heap.objs.size (.lst xs), I1.laid (t' := s1.toks) (fun b u e => Heap.get?_push_of_some _ e) (Nat.le_refl _) ?_, rfl, q _ hf⟩
  exact ⟨z, us, 0, r, Heap.get?_push_size _ rfl⟩
/-! ### builtin calls -/
def cLen (K : Frag) : List V → Hp → VK → Prop := fun xs H Q => match xs with
  | [.str z] => Need (z.length ≤ sizeLine) (Q (.int z.length) H)
  | [.ref p] => Rd K H p fun ys => Q (.int ys.length) H
  | _ => False
theorem c_len {X : Cx} : CallR X (.builtin "len") (cLen X.K) := CallR.of (call_len_seq.or call_len_str) fun xs H Q q => by
  match xs, q with
  | [.str z], q => exact .inr ⟨z, rfl, q.c, q.q⟩
  | [.ref p], ⟨⟨ys, h, q⟩⟩ => exact .inl ⟨p, ys, rfl, h, q⟩
def cTuple (K : Frag) : List V → Hp → VK → Prop := fun xs H Q => match xs with
  | [.ref p] => Rd K H p fun ys => NewT K H ys Q
  | _ => False
theorem c_tuple {X : Cx} : CallR X (.type "tuple") (cTuple X.K) := CallR.of call_tuple_of fun xs H Q q => by
  match xs, q with
  | [.ref p], ⟨⟨ys, h, ⟨q⟩⟩⟩ =>
    refine ⟨p, ys, rfl, ?_⟩
    rcases h with h | h
    · exact .inl ⟨h, fun l hl => q _ _ (same_new hl) (SqT.of upd_same)⟩
    · exact .inr ⟨h, q _ _ (Same.refl _) h⟩
def cList (K : Frag) : List V → Hp → VK → Prop := fun xs H Q => match xs with
  | [.ref p] => Rd K H p fun ys => NewL H ys Q
  | _ => False
theorem c_list {X : Cx} : CallR X (.type "list") (cList X.K) := CallR.of call_list_of fun xs H Q q => by
  match xs, q with
  | [.ref p], ⟨⟨ys, h, ⟨q⟩⟩⟩ => exact ⟨p, ys, rfl, h, q⟩
def b2i (b : Bool) : Int := match b with
  | true => 1
  | false => 0
def cInt : List V → Hp → VK → Prop := fun xs H Q => match xs with
  | [.int i] => Q (.int i) H
  | [.bl b] => Q (.int (b2i b)) H
  | _ => False
theorem c_int {X : Cx} : CallR X (.type "int") cInt := CallR.of call_int1 fun xs H Q q => by
  match xs, q with
  | [.int i], q => exact .inl ⟨_, rfl, q⟩
  | [.bl b], q =>
    refine .inr ⟨_, rfl, ?_⟩
    cases b <;> exact q
def cAbs : List V → Hp → VK → Prop := fun xs H Q => match xs with
  | [.int i] => Q (.int (i.natAbs : Int)) H
  | _ => False
theorem c_abs {X : Cx} : CallR X (.builtin "abs") cAbs := CallR.of call_abs fun xs H Q q => by
  match xs, q with
  | [.int i], q =>
    refine ⟨_, rfl, ?_⟩
    have e : (if i < 0 then -i else i) = (i.natAbs : Int) := by split <;> omega
    rw [e]; exact q
def cMax2 : List V → Hp → VK → Prop := fun xs H Q => match xs with
  | [.int i, .int j] => Q (.int (max i j)) H
  | _ => False
theorem c_max2 {X : Cx} (hc : X.calm = true) : CallR X (.builtin "max") cMax2 := CallR.of (call_max2 hc) fun xs H Q q => by
  match xs, q with
  | [.int i, .int j], q =>
    refine ⟨_, _, rfl, ?_⟩
    have e : (if j > i then j else i) = max i j := by split <;> omega
    rw [e]; exact q
def cMin2 : List V → Hp → VK → Prop := fun xs H Q => match xs with
  | [.int i, .int j] => Q (.int (min i j)) H
  | _ => False
theorem c_min2 {X : Cx} (hc : X.calm = true) : CallR X (.builtin "min") cMin2 := CallR.of (call_min2 hc) fun xs H Q q => by
  match xs, q with
  | [.int i, .int j], q =>
    refine ⟨_, _, rfl, ?_⟩
    have e : (if j < i then j else i) = min i j := by split <;> omega
    rw [e]; exact q
/-- isinstance(x, T), one class -/
structure Isi (K : Frag) (H : Hp) (x : V) (u : Value) (k : Bool → Prop) : Prop where
  ex : (∃ t b, TyX K H x t ∧ PySem.W.kitOne K t u = some b ∧ k b) ∨ (∃ a C dx vs b, x = .ref a ∧ SlX.Slt H a C dx vs ∧ SlX.SCls K C ∧ SlX.SIsi K C ∧ PySem.W.kitOne K (.ref C) u = some b ∧ k b)
theorem Isi.of {K : Frag} {H : Hp} {x : V} {u t : Value} {b : Bool} {k : Bool → Prop} (h : TyX K H x t) (e : PySem.W.kitOne K t u = some b) (q : k b) : Isi K H x u k := ⟨.inl ⟨t, b, h, e, q⟩⟩
def cIsi (K : Frag) : List V → Hp → VK → Prop := fun xs H Q => match xs with
  | [x, .ty n] => Isi K H x (.type n) fun b => Q (.bl b) H
  | [x, .ref C] => Isi K H x (.ref C) fun b => Q (.bl b) H
  | _ => False
theorem c_isi {X : Cx} : CallR X (.builtin "isinstance") (cIsi X.K) := by
  intro pins s σ H xs us Q I r q
  match xs, q with
  | [x, .ty n], ⟨.inl ⟨t, b, h1, h2, q⟩⟩ => exact call_isi pins s σ H _ us Q I r ⟨x, _, t, _, b, rfl, .ty n, h1, h2, q⟩
  | [x, .ref C], ⟨.inl ⟨t, b, h1, h2, q⟩⟩ => exact call_isi pins s σ H _ us Q I r ⟨x, _, t, _, b, rfl, .own C, h1, h2, q⟩
  | [x, .ty n], ⟨.inr ⟨a, C, dx, vs, b, e, h1, h2, h3, h4, q⟩⟩ =>
    subst e
    exact SlX.call_isiSl (.type n) pins s σ H _ us Q I r ⟨a, C, dx, vs, _, b, rfl, rfl, fun w z => z, h1, h2, h3, h4, q⟩
  | [x, .ref D], ⟨.inr ⟨a, C, dx, vs, b, e, h1, h2, h3, h4, q⟩⟩ =>
    subst e
    exact SlX.call_isiSl (.ref D) pins s σ H _ us Q I r ⟨a, C, dx, vs, _, b, rfl, rfl, fun w z => z, h1, h2, h3, h4, q⟩
/-! ### methods of lists -/
/-- a list stands at p -/
structure IsL (K : Frag) (H : Hp) (p : Addr) (q : Prop) : Prop where
  ex : ∃ xs, SqL K H p xs
  q : q
theorem IsL.of {K : Frag} {H : Hp} {p : Addr} {q : Prop} {xs : List V} (h : H p = some (.lst xs)) (q1 : q) : IsL K H p q := ⟨⟨xs, SqL.of h⟩, q1⟩
def dML (K : Frag) (r : V → List V → Hp → VK → Prop) (to : TE) (t : TA) : TE := fun σ H Q => to σ H fun x H1 => match x with
  | .ref l => IsL K H1 l (t σ H1 fun vs H2 => r (.ref l) vs H2 Q)
  | _ => False
theorem pe_ml {X : Cx} {o e : Expr} {es : List Expr} {to : TE} {t : TA} {name : Str} {apos cpos : Pos} {id : String} {r : V → List V → Hp → VK → Prop} (slot : Slot "list" name id) (hty : typeOf (.builtin id) = pure (.type "method_descriptor")) (hm : MtR X id r) (ho : PE X o to) (ha : PA X (e :: es) t)
    (hbase : attributeBase o name X.env (eval o X.env) = eval o X.env := by rfl)
    (hfew : ((backTo cpos (starEach (e :: es) X.env)).all (fun x => !x.1) && (backToKw cpos (keywordEach [] X.env)).all (fun x => x.1.isSome)
      && decide ((e :: es).length + ([] : List Keyword).length + (if ([] : List Keyword).isEmpty then 0 else 1) < 30)) = true := by rfl)
    (hline : (apos.endLine == cpos.line) = true := by rfl) (hs : starEach (e :: es) X.env = (false, eval e X.env) :: starEach es X.env := by rfl) (hplain : (backTo cpos (starEach es X.env)).any (·.1) = false := by rfl) :
    PE X (.Call (.Attribute o name apos) (e :: es) [] cpos) (dML X.K r to t) := by
  refine ⟨fun pins s σ H Q I h => ?_⟩
  refine wpAny_Call_method_late hbase hfew hline rfl (thn (ho.run pins s σ H _ I h) fun v s1 ⟨x, H1, I1, r1, q1⟩ => ?_)
  cases x <;> try exact q1.elim
  obtain ⟨hx, q1⟩ := q1
  obtain ⟨h1, h2⟩ := tyV_is (T := "list") I1 r1 (.inl ⟨rfl, hx⟩)
  refine ⟨"list", id, PySem.F.plainAttrs_list, slot, hty, h1, h2, ?_⟩
  have hA := ha.run cpos pins s1 σ H1 _ I1 q1
  rw [hs] at hA ⊢
  refine Calls.callWith_builtin (by show (false || (backTo cpos (starEach es X.env)).any (·.1)) = false; rw [hplain] <;> rfl) (Calls.evalArgs_plain ?_)
  exact thn hA fun us s2 ⟨vs, H2, I2, r2, q2⟩ => hm pins s2 σ H2 _ vs _ us Q I2 r1 r2 q2
theorem pe_ml0 {X : Cx} {o : Expr} {to : TE} {name : Str} {apos cpos : Pos} {id : String} {r : V → List V → Hp → VK → Prop} (slot : Slot "list" name id) (hty : typeOf (.builtin id) = pure (.type "method_descriptor")) (hm : MtR X id r) (ho : PE X o to)
    (hbase : attributeBase o name X.env (eval o X.env) = eval o X.env := by rfl) (hline : (apos.endLine == cpos.line) = true := by rfl) : PE X (.Call (.Attribute o name apos) [] [] cpos) (dML X.K r to tNil) := by
  refine ⟨fun pins s σ H Q I h => ?_⟩
  refine wpAny_Call_method0_late hbase hline (thn (ho.run pins s σ H _ I h) fun v s1 ⟨x, H1, I1, r1, q1⟩ => ?_)
  cases x <;> try exact q1.elim
  obtain ⟨hx, q1⟩ := q1
  obtain ⟨h1, h2⟩ := tyV_is (T := "list") I1 r1 (.inl ⟨rfl, hx⟩)
  exact ⟨"list", id, PySem.F.plainAttrs_list, slot, hty, h1, h2, Calls.callWith_builtin rfl (PySem.evalArgs_none (hm pins s1 σ H1 _ [] _ [] Q I1 r1 .nil q1))⟩
theorem MtR.of {X : Cx} {id : String} {r r' : V → List V → Hp → VK → Prop} (h : MtR X id r) (i : ∀ x xs H Q, r' x xs H Q → r x xs H Q) : MtR X id r' := fun pins s σ H x xs v us Q I rx rs q => h pins s σ H x xs v us Q I rx rs (i x xs H Q q)
abbrev M2 := V → List V → Hp → VK → Prop
/-- the list at x changed -/
def mL (f : List V → List V → Hp → (V → List V → Prop) → Prop) : M2 := fun x vs H Q => match x with
  | .ref l => Ls H l fun xs => f xs vs H fun z ys => Q z (upd H l (.lst ys))
  | _ => False
def mApp : M2 := mL fun xs vs _ k => match vs with
  | [y] => Need (xs.length < sizeLine) (k .non (xs ++ [y]))
  | _ => False
theorem m_app {X : Cx} : MtR X "list.append" mApp := MtR.of mt_append fun x vs H Q q => by
  cases x <;> try exact q.elim
  match vs, q with
  | [y], ⟨⟨xs, h, ⟨hz, q⟩⟩⟩ => exact ⟨_, xs, y, rfl, rfl, h, hz, q⟩
theorem at_last {xs : List V} {y : V} (h : atI xs (-1) = some y) : xs[xs.length - 1]? = some y := by
  unfold atI ixN at h
  rw [if_neg (by decide)] at h
  by_cases hn : -(xs.length : Int) ≤ -1
  · rw [if_pos hn, Option.bind_some] at h
    have e : (-1 + (xs.length : Int)).toNat = xs.length - 1 := by omega
    rw [e] at h
    exact h
  · rw [if_neg hn] at h
    cases h
def mPop : M2 := mL fun xs vs _ k => match vs with
  | [] => At xs (-1) fun y => k y xs.dropLast
  | _ => False
theorem m_pop {X : Cx} : MtR X "list.pop" mPop := MtR.of mt_pop fun x vs H Q q => by
  cases x <;> try exact q.elim
  match vs, q with
  | [], ⟨⟨xs, h, ⟨y, hy, q⟩⟩⟩ => exact ⟨_, xs, y, rfl, rfl, h, at_last hy, q⟩
def mRev : M2 := mL fun xs vs _ k => match vs with
  | [] => k .non xs.reverse
  | _ => False
theorem m_rev {X : Cx} : MtR X "list.reverse" mRev := MtR.of mt_reverse fun x vs H Q q => by
  cases x <;> try exact q.elim
  match vs, q with
  | [], ⟨⟨xs, h, q⟩⟩ => exact ⟨_, xs, rfl, rfl, h, q⟩
def mIns : M2 := mL fun xs vs _ k => match vs with
  | [.int i, y] => Need (xs.length < sizeLine ∧ 0 ≤ i ∧ i < 2 ^ 63) (k .non (xs.take i.toNat ++ [y] ++ xs.drop i.toNat))
  | _ => False
theorem m_ins {X : Cx} : MtR X "list.insert" mIns := MtR.of mt_insert fun x vs H Q q => by
  cases x <;> try exact q.elim
  match vs, q with
  | [.int i, y], ⟨⟨xs, h, ⟨⟨hz, h0, h1⟩, q⟩⟩⟩ => exact ⟨_, xs, i, y, rfl, rfl, h, hz, h0, h1, q⟩
def mExt : M2 := mL fun xs vs H k => match vs with
  | [.ref b] => Ls H b fun zs => Need (xs.length + zs.length ≤ sizeLine) (k .non (xs ++ zs))
  | _ => False
theorem m_ext {X : Cx} : MtR X "list.extend" mExt := MtR.of mt_extend fun x vs H Q q => by
  cases x <;> try exact q.elim
  match vs, q with
  | [.ref b], ⟨⟨xs, h, ⟨⟨zs, h2, ⟨hz, q⟩⟩⟩⟩⟩ => exact ⟨_, b, xs, zs, rfl, rfl, h, h2, hz, q⟩
/-! ### stores -/
/-- the place i in n -/
structure Pl (n : Nat) (i : Int) (k : Nat → Prop) : Prop where
  ex : ∃ j, ixN n i = some j ∧ k j
theorem Pl.of {n : Nat} {i : Int} {k : Nat → Prop} {j : Nat} (h : ixN n i = some j) (q : k j) : Pl n i k := ⟨j, h, q⟩
def oSet : V → V → V → Hp → (Hp → Prop) → Prop := fun o i v H Q => match o, i with
  | .ref p, .int k => Ls H p fun xs => Pl xs.length k fun j => Q (upd H p (.lst (xs.set j v)))
  | _, _ => False
theorem s_list {X : Cx} : PSet X oSet := fun pins s σ H o i v uo ui uv Q I ro ri rv q => by
  cases o <;> cases i <;> try exact q.elim
  obtain ⟨⟨xs, h, ⟨j, e, q⟩⟩⟩ := q
  exact set_list pins s σ H _ _ v uo ui uv Q I ro ri rv ⟨_, xs, _, j, rfl, rfl, h, e, q⟩
/-! ### loops over a list or a tuple -/
/-- the list or the tuple at a is walked -/
structure Walk (K : Frag) (H : Hp) (a : Addr) (R : It → Hp → Prop) : Prop where
  ex : ((∃ xs, SqL K H a xs) ∧ R (Itl K a) H) ∨ ((∃ xs, SqT K H a xs) ∧ R (Itt K a) H)
def iSm (K : Frag) (x : V) (H : Hp) (R : It → Hp → Prop) : Prop := match x with
  | .ref a => Walk K H a R
  | _ => False
def iSeq (K : Frag) (tl : TE) : TI := fun σ H R => tl σ H fun x H1 => iSm K x H1 R
theorem pi_seq {X : Cx} {tg l : Expr} {tl : TE} (hl : PE X l tl) : PI X tg l (iSeq X.K tl) := by
  refine ⟨fun pins s σ H R I h => ?_⟩
  refine thn (hl.run pins s σ H _ I h) fun v s1 ⟨x, H1, I1, r1, q1⟩ => ?_
  cases x <;> try exact q1.elim
  cases r1
  rcases q1.ex with ⟨⟨xs, hq⟩, q⟩ | ⟨⟨xs, hq⟩, q⟩
  · obtain ⟨its, rv, p, hz⟩ := I1.list hq
    refine wpAny_pyIter_list p.isList ?_
    refine ⟨s1.heap.objs.size, [s1.heap.objs.size], _, _, H1, rfl, I1.kept (t' := s1.toks) fun b o e => Heap.get?_push_of_some _ e, turn_list _ _, ⟨_, Heap.get?_push_size _ rfl, rfl, rfl⟩, fun b hb => ?_, q⟩
    have e : b = s1.heap.objs.size := by simpa using hb
    subst e
    exact I1.fpOk (Nat.le_refl _) (I1.hok.fresh (Nat.le_refl _))
  · obtain ⟨its, rv, p, hz⟩ := I1.tuple hq
    refine wpAny_pyIter_tuple (show s1.heap.IsTuple _ its.toArray from p) ?_
    refine ⟨s1.heap.objs.size, [s1.heap.objs.size], _, _, H1, rfl, I1.kept (t' := s1.toks) fun b o e => Heap.get?_push_of_some _ e, turn_tuple _ _, ⟨_, Heap.get?_push_size _ rfl, rfl, rfl⟩, fun b hb => ?_, q⟩
    have e : b = s1.heap.objs.size := by simpa using hb
    subst e
    exact I1.fpOk (Nat.le_refl _) (I1.hok.fresh (Nat.le_refl _))
/-- what a loop asks of its walk -/
def LoopR (D : Ends) (g : TG) (tb : TS) (σ : L2.St) : It → Hp → Prop := fun J H1 => ∃ W : Nat → Nat → L2.St → Hp → Prop, (∃ m, W 0 m σ H1) ∧ ∀ i m σ H, W i m σ H →
  (J.stop i H ∧ D.nx σ H) ∨ (J.go i H ∧ ∃ N : L2.St → Hp → Prop, (∀ σ' H', N σ' H' → ∃ m', m' < m ∧ W (i + 1) m' σ' H') ∧ ∀ x H', J.yld i H x H' → g x σ H' fun σ2 H2 => tb { D with nx := N, ct := N, bk := D.nx } σ2 H2)
def dFor (wi : TI) (g : TG) (tb : TS) : TS := fun D σ H => wi σ H (LoopR D g tb σ)
theorem ps_for {X : Cx} {tg iter : Expr} {body : List Stmt} {wi : TI} {g : TG} {tb : TS} {pos : Pos} (hp : PassesOwn (model X.prog X.w) X.A X.env X.xe) (hc : X.calm = true) (hi : PI X tg iter wi) (hg : PG X tg g) (hb : PSs X body tb)
    (hs : ∀ x, foldedSetIterable iter X.env x = pure x := by intro _; rfl) : PS X (.For tg iter body [] pos) (dFor wi g tb) := L2.ps_for hp hc hi hg hb hs
/-- the sequence at p stands as it stood -/
def Stay (K : Frag) (p : Addr) (H H' : Hp) : Prop := ∀ xs, (SqL K H p xs → SqL K H' p xs) ∧ (SqT K H p xs → SqT K H' p xs)
theorem Same.tup {K : Frag} {H H' : Hp} {a : Addr} {xs : List V} (e : Same H H') (h : SqT K H a xs) : SqT K H' a xs := by
  rcases h with (h | ⟨o, h⟩) | h
  · exact .inl (.inl (e _ _ h))
  · exact .inl (.inr ⟨o, e _ _ h⟩)
  · exact .inr h
theorem Same.sqa {K : Frag} {H H' : Hp} {a : Addr} {xs : List V} (e : Same H H') (h : SqA K H a xs) : SqA K H' a xs := h.imp e.seq (Same.tup e)
theorem Same.stay {K : Frag} {H H' : Hp} {a : Addr} (e : Same H H') : Stay K a H H' := fun _ => ⟨e.seq, Same.tup e⟩
/-- all but what stands at st stays -/
def SameX (st : Addr) (H H' : Hp) : Prop := ∀ b o, H b = some o → b ≠ st → H' b = some o
theorem SameX.refl (st : Addr) (H : Hp) : SameX st H H := fun _ _ h _ => h
theorem SameX.trans {st : Addr} {H H1 H2 : Hp} (a : SameX st H H1) (b : SameX st H1 H2) : SameX st H H2 := fun c o h n => b c o (a c o h n) n
theorem SameX.then {st : Addr} {H H1 H2 : Hp} (a : SameX st H H1) (b : Same H1 H2) : SameX st H H2 := fun c o h n => b c o (a c o h n)
theorem Same.thenX {st : Addr} {H H1 H2 : Hp} (a : Same H H1) (b : SameX st H1 H2) : SameX st H H2 := fun c o h n => b c o (a c o h) n
theorem Same.x {st : Addr} {H H1 : Hp} (a : Same H H1) : SameX st H H1 := fun c o h _ => a c o h
theorem SameX.upd {st : Addr} {H : Hp} {o : HO} : SameX st H (upd H st o) := fun b u h n => by rw [upd_ne n]; exact h
/-- what st was made behind H0 -/
theorem SameX.same {st : Addr} {H0 H H' : Hp} (a : Same H0 H) (b : SameX st H H') (n : H0 st = none) : Same H0 H' := fun c o h => b c o (a c o h) (ne_of_none h n)
theorem SameX.seq {K : Frag} {st : Addr} {H H' : Hp} {a : Addr} {xs : List V} (e : SameX st H H') (h : SqL K H a xs) (n : a ≠ st) : SqL K H' a xs := by
  rcases h with (h | ⟨o, h⟩) | h
  · exact .inl (.inl (e _ _ h n))
  · exact .inl (.inr ⟨o, e _ _ h n⟩)
  · exact .inr h
theorem SameX.tup {K : Frag} {st : Addr} {H H' : Hp} {a : Addr} {xs ys : List V} (e : SameX st H H') (h : SqT K H a xs) (hst : H st = some (.lst ys)) : SqT K H' a xs := by
  rcases h with (h | ⟨o, h⟩) | h
  · exact .inl (.inl (e _ _ h (ne_of h hst (by intro z; cases z))))
  · exact .inl (.inr ⟨o, e _ _ h (ne_of h hst (by intro z; cases z))⟩)
  · exact .inr h
theorem sl_upd {K : Frag} {H : Hp} {a p : Addr} {o : HO} {xs : List V} (h : SqL K H a xs) (n : a ≠ p) : SqL K (upd H p o) a xs := by
  rcases h with (h | ⟨u, h⟩) | h
  · exact .inl (.inl (by rw [upd_ne n]; exact h))
  · exact .inl (.inr ⟨u, by rw [upd_ne n]; exact h⟩)
  · exact .inr h
theorem st_upd {K : Frag} {H : Hp} {a p : Addr} {o : HO} {xs : List V} (h : SqT K H a xs) (n : a ≠ p) : SqT K (upd H p o) a xs := by
  rcases h with (h | ⟨u, h⟩) | h
  · exact .inl (.inl (by rw [upd_ne n]; exact h))
  · exact .inl (.inr ⟨u, by rw [upd_ne n]; exact h⟩)
  · exact .inr h
theorem up_of {H : Hp} {a p : Addr} {o u : HO} (n : a ≠ p) (h : H a = some u) : upd H p o a = some u := by rw [upd_ne n]; exact h
theorem SameX.put {st : Addr} {H0 H1 : Hp} {o : HO} (e : SameX st H0 H1) : SameX st H0 (L2.upd H1 st o) := e.trans SameX.upd
theorem appS {K : Frag} {H H1 : Hp} {a st : Addr} {xs : List V} (h : ∀ H1, SameX st H H1 → SqL K H1 a xs) (e : SameX st H H1) : SqL K H1 a xs := h H1 e
/-- over a list or a tuple that the body leaves as it is -/
theorem for_seq {K : Frag} {p : Addr} {xs : List V} {g : TG} {tb : TS} {D : Ends} {σ : L2.St} {H : Hp} (Pv : Nat → L2.St → Hp → Prop) (hx : SqA K H p xs) (h0 : Pv 0 σ H) (hl : ∀ i σ H', i ≤ xs.length → Pv i σ H' → Stay K p H H')
    (hs : ∀ i x σ H, xs[i]? = some x → Pv i σ H → g x σ H fun σ2 H2 => tb { D with nx := Pv (i + 1), ct := Pv (i + 1), bk := D.nx } σ2 H2) (hd : ∀ σ H, Pv xs.length σ H → D.nx σ H) :
    Walk K H p (LoopR D g tb σ) := by
  rcases hx with hx | hx
  · exact ⟨.inl ⟨⟨xs, hx⟩, for_list Pv h0 (fun i σ H' hi q => (hl i σ H' hi q xs).1 hx) hs hd⟩⟩
  · exact ⟨.inr ⟨⟨xs, hx⟩, for_tup Pv h0 (fun i σ H' hi q => (hl i σ H' hi q xs).2 hx) hs hd⟩⟩
/-! ### ranges -/
def iR1 (vs : List V) (H : Hp) (R : It → Hp → Prop) : Prop := match vs with
  | [.int j] => Need (-(2 ^ 62) ≤ j ∧ j < 2 ^ 62) (R (Itr 0 j.toNat) H)
  | _ => False
def iRng (ta : TA) : TI := fun σ H R => ta σ H fun vs H1 => iR1 vs H1 R
theorem pi_rng {X : Cx} {tg a : Expr} {ta : TA} {p pos : Pos} (hg : Gl X "range") (hm : X.mg "range" = none) (ha : PA X [a] ta) (hs : starEach [a] X.env = [(false, eval a X.env)] := by rfl) : PI X tg (.Call (.Name "range" p) [a] [] pos) (iRng ta) := by
  refine ⟨fun pins s σ H R I h => ?_⟩
  refine Call_ (ld_blt I hg hm boot_range (PyProof.Rows.callWith_type1 (thn (ha.run pos pins s σ H _ I h) fun us s1 ⟨vs, H1, I1, r1, q1⟩ => ?_) hs rfl))
  match vs, q1 with
  | [.int j], ⟨⟨q1, q2⟩, q⟩ =>
    cases r1 with
    | cons r rr =>
      cases rr
      obtain ⟨t, rfl⟩ := r
      exact call_range_1 (range_it I1 (by omega) (by omega) q1 q2 (by simpa using q))
def iR2 (vs : List V) (H : Hp) (R : It → Hp → Prop) : Prop := match vs with
  | [.int i, .int j] => Need (-(2 ^ 62) ≤ i ∧ i < 2 ^ 62 ∧ -(2 ^ 62) ≤ j ∧ j < 2 ^ 62) (R (Itr i (j - i).toNat) H)
  | _ => False
def iRngB (ta : TA) : TI := fun σ H R => ta σ H fun vs H1 => iR2 vs H1 R
theorem pi_rngB {X : Cx} {tg a b : Expr} {ta : TA} {p pos : Pos} (hg : Gl X "range") (hm : X.mg "range" = none) (ha : PA X [a, b] ta) (hs : starEach [a, b] X.env = [(false, eval a X.env), (false, eval b X.env)] := by rfl) (hs2 : starEach [b] X.env = [(false, eval b X.env)] := by rfl) :
    PI X tg (.Call (.Name "range" p) [a, b] [] pos) (iRngB ta) := by
  refine ⟨fun pins s σ H R I h => ?_⟩
  refine Call_ (ld_blt I hg hm boot_range (PyProof.Rows.callWith_type1 (thn (ha.run pos pins s σ H _ I h) fun us s1 ⟨vs, H1, I1, r1, q1⟩ => ?_) (by rw [hs, hs2]) (by rw [hs2]; rfl)))
  match vs, q1 with
  | [.int i, .int j], ⟨⟨q1, q2, q3, q4⟩, q⟩ =>
    cases r1 with
    | cons r rr =>
      cases rr with
      | cons r' rr =>
        cases rr
        obtain ⟨t, rfl⟩ := r
        obtain ⟨t', rfl⟩ := r'
        exact call_range_2 (range_it I1 q1 q2 q3 q4 q)
theorem for_rngB {a b : Int} {g : TG} {tb : TS} {D : Ends} {σ : L2.St} {H : Hp} (Pv : Nat → L2.St → Hp → Prop) (h0 : Pv 0 σ H)
    (hs : ∀ (i : Nat) σ H, a + (i : Int) < b → Pv i σ H → g (.int (a + i)) σ H fun σ2 H2 => tb { D with nx := Pv (i + 1), ct := Pv (i + 1), bk := D.nx } σ2 H2) (hd : ∀ σ H, Pv (b - a).toNat σ H → D.nx σ H) :
    LoopR D g tb σ (Itr a (b - a).toNat) H := L2.for_range (lo := a) Pv h0 (fun i σ H hi q => hs i σ H (by omega) q) hd
theorem for_rng {n : Int} {g : TG} {tb : TS} {D : Ends} {σ : L2.St} {H : Hp} (Pv : Nat → L2.St → Hp → Prop) (h0 : Pv 0 σ H)
    (hs : ∀ (i : Nat) σ H, (i : Int) < n → Pv i σ H → g (.int i) σ H fun σ2 H2 => tb { D with nx := Pv (i + 1), ct := Pv (i + 1), bk := D.nx } σ2 H2) (hd : ∀ σ H, Pv n.toNat σ H → D.nx σ H) :
    LoopR D g tb σ (Itr 0 n.toNat) H := by
  refine L2.for_range (lo := 0) Pv h0 (fun i σ H hi q => ?_) hd
  have z := hs i σ H (by omega) q
  rw [Int.zero_add]; exact z
/-! ### while -/
def WhileR (c : TT) (tb : TS) (D : Ends) (σ : L2.St) (H : Hp) : Prop := ∃ W : Nat → L2.St → Hp → Prop, (∃ m, W m σ H) ∧ ∀ m σ H, W m σ H →
  c σ H fun b H1 => bIf b (tb { D with nx := fun σ' H' => ∃ m', m' < m ∧ W m' σ' H', ct := fun σ' H' => ∃ m', m' < m ∧ W m' σ' H', bk := D.nx } σ H1) (D.nx σ H1)
structure Loop (c : TT) (tb : TS) (D : Ends) (σ : L2.St) (H : Hp) : Prop where
  ex : WhileR c tb D σ H
def dWhile (c : TT) (tb : TS) : TS := fun D σ H => Loop c tb D σ H
theorem ps_while {X : Cx} {c : Expr} {body : List Stmt} {tc : TT} {tb : TS} {pos : Pos} (hp : PassesOwn (model X.prog X.w) X.A X.env X.xe) (hc : PT X c tc) (hb : PSs X body tb) : PS X (.While c body [] pos) (dWhile tc tb) := by
  refine ⟨fun pins s σ H D I h => ?_⟩
  obtain ⟨⟨W, ⟨m0, w0⟩, turn⟩⟩ := h
  refine wpAny_While (codeAny_whileLoop (fun n s' => ∃ σ' H', Inv X pins σ' H' s' ∧ W n σ' H') ?_ m0 ⟨σ, H, I, w0⟩)
  rintro n s1 ⟨σ1, H1, I1, w1⟩
  refine wpAny_passesOwn hp (thn (hc.run pins s1 σ1 H1 _ I1 (turn n σ1 H1 w1)) fun b s2 ⟨H2, I2, q2⟩ => ?_)
  cases b with
  | true =>
    rw [if_pos rfl]
    refine wpAny_passesOwn hp (thn (hb.run pins s2 σ1 H2 _ I2 q2) fun f s3 q3 => ?_)
    cases f with
    | next =>
      obtain ⟨σ3, H3, I3, m', hm, w3⟩ := q3
      exact ⟨m', hm, σ3, H3, I3, w3⟩
    | cont =>
      obtain ⟨σ3, H3, I3, m', hm, w3⟩ := q3
      exact ⟨m', hm, σ3, H3, I3, w3⟩
    | brk => exact q3
    | ret v => exact q3
  | false =>
    rw [if_neg Bool.false_ne_true]
    exact wpAny_execs_nil ⟨σ1, H2, I2, q2⟩
/-! ### calls of the module's defs, by positional promises -/
/-- f(e, ..): what is raised is wished for at the caller's slots -/
def dCall (sp : Sp) (E : L2.St → XK) (t : TA) : TE := fun σ H Q => t σ H fun vs H1 => sp vs H1 Q (E σ)
section
variable {X : Cx} {k : Nat} {g : Addr} {sp : Sp} {E : L2.St → XK} {x : Str} {p pos : Pos} {e : Expr} {es : List Expr} {t : TA}
theorem run_R {pins : List (Addr × Obj)} {σ : L2.St} {H : Hp} {s : Shared} {Q : VK} {us : List Value} {vs : List V} (F : FnR X.prog X.w X.K X.mg X.base (L2.CX X.prog X.w) k g sp) (hr : Room k X.A) (hx : PassesAt (L2.CX X.prog X.w) X σ (E σ))
    (I : Inv X pins σ H s) (r : Vals vs us) (h : sp vs H Q (E σ)) : wpAny (model X.prog X.w) X.A (call (.ref g) us) (EP X pins σ Q) X.xe s := by
  refine wpAny_call (codeAny_mono (F X.A X.stack s H us vs Q (E σ) hr I.env0 r h) fun r s' hq => ?_)
  cases r with
  | error e => exact hx pins H s e s' I hq
  | ok fl =>
    cases fl with
    | ret u => exact I.after hq
    | next => exact False.elim hq
    | brk => exact False.elim hq
    | cont => exact False.elim hq
theorem pe_call (F : FnR X.prog X.w X.K X.mg X.base (L2.CX X.prog X.w) k g sp) (hr : Room k X.A) (hm : X.mg x = some (.ref g)) (hk : PySem.W.keepIn X.K (.ref g) = true) (hx : ∀ σ, PassesAt (L2.CX X.prog X.w) X σ (E σ))
    (ha : PA X (e :: es) t) (hg : Gl X x := by rfl) (hdb : (x == ("__debug__" : Str)) = false := by decide) (he : starEach (e :: es) X.env = (false, eval e X.env) :: starEach es X.env := by rfl) (hpl : (backTo pos (starEach es X.env)).any (·.1) = false := by rfl) :
    PE X (.Call (.Name x p) (e :: es) [] pos) (dCall sp E t) := by
  refine ⟨fun pins s σ H Q I h => ?_⟩
  refine wpAny_Call_Name_kw (ld_glob I hg hm ?_ hdb)
  refine PySem.W.callWith_K (h₀ := X.base) I.ok.mod.kin hk (thn (ha.run pos pins s σ H _ I h) fun us s1 ⟨vs, H1, I1, r, q⟩ => ⟨I1.kIn, ?_⟩) he hpl
  exact run_R F hr (hx σ) I1 r q
end
/-- f(e, ..), f a built-in function | type -/
theorem pe_cb {X : Cx} {x : Str} {p pos : Pos} {e : Expr} {es : List Expr} {t : TA} {id : String} {r : List V → Hp → VK → Prop} (hc : CallR X (.builtin id) r) (hm : X.mg x = none) (hv : bootBuiltins x = some (.builtin id)) (ha : PA X (e :: es) t) (hg : Gl X x := by rfl) (hn : x ≠ "__name__" := by decide) (hdb : (x == ("__debug__" : Str)) = false := by decide)
    (he : starEach (e :: es) X.env = (false, eval e X.env) :: starEach es X.env := by rfl) (hpl : (backTo pos (starEach es X.env)).any (·.1) = false := by rfl) : PE X (.Call (.Name x p) (e :: es) [] pos) (tCB r t) := pe_callB hc hg hm hv ha hn hdb he hpl
theorem pe_ct {X : Cx} {x : Str} {p pos : Pos} {e : Expr} {es : List Expr} {t : TA} {T : String} {r : List V → Hp → VK → Prop} (hc : CallR X (.type T) r) (hm : X.mg x = none) (hv : bootBuiltins x = some (.type T)) (ha : PA X (e :: es) t) (hg : Gl X x := by rfl) (hn : x ≠ "__name__" := by decide) (hdb : (x == ("__debug__" : Str)) = false := by decide)
    (he : starEach (e :: es) X.env = (false, eval e X.env) :: starEach es X.env := by rfl) (hpl : (backTo pos (starEach es X.env)).any (·.1) = false := by rfl) : PE X (.Call (.Name x p) (e :: es) [] pos) (tCB r t) := pe_callTy hc hg hm hv ha hn hdb he hpl
/-- a built-in's name as a value -/
theorem pe_bt {X : Cx} {x : Str} {n : String} {pos : Pos} (hm : X.mg x = none) (hv : bootBuiltins x = some (.type n)) (hg : Gl X x := by rfl) (hn : x ≠ "__name__" := by decide) (hd : (x == ("__debug__" : Str)) = false := by decide) : PE X (.Name x pos) (tC (.ty n)) := pe_bltn hg hm hv rfl hn hd
/-! ### a def by its body -/
section
variable {P : Program} {w : World} {K : Frag} {mg : Str → Option Value} {base : Heap}
abbrev FR (P : Program) (w : World) (K : Frag) (mg : Str → Option Value) (base : Heap) (k : Nat) (f : Addr) (sp : Sp) : Prop := FnR P w K mg base (L2.CX P w) k f sp
/-- the context of a def's body -/
abbrev cxD (P : Program) (w : World) (K : Frag) (mg : Str → Option Value) (base : Heap) (N : List Str) (qual : Str) (scope : Scope) (f : Addr) (cd : Value) (A : Around) (outer : List Env) (s : Shared) (H : Hp) (E : XK) : Cx := cxOf (L2.CX P w) P w K mg base N qual scope f cd A outer s H E
theorem mk_fn {x qual : Str} {params : Arguments} {body : List Stmt} {scope : Scope} {f : Addr} {fd : FuncData} {N ps : List Str} {k : Nat} {sp : Sp} (F : FunD K x qual params body scope [] [] f fd) (S : FnScope N ps scope) (len : ∀ vs H Q E, sp vs H Q E → vs.length = ps.length)
    (hb : ∀ (kV doc pm : Value) (an : Option Addr) (cdv ct : Value) (us : List Value), us.length = ps.length → bindArgs (PySem.W.fnOf x qual params body scope .none kV doc pm an cdv ct) ⟨us, []⟩ = pure (ps.zip us)) {t : XK → TS}
    (hbody : ∀ (cdv : Value) (A : Around) (outer : List Env) (s : Shared) (H : Hp) (E : XK), Room k (A.deeper (envOfC qual scope s.heap.objs.size f cdv)) →
      PSs (cxD P w K mg base N qual scope f cdv A outer s H E) body (t E))
    (pure : ∀ vs H Q E, sp vs H Q E → t E { nx := fun _ H' => Q .non H', rt := Q } (start N vs) H) : FR P w K mg base (k + 1) f sp := by
  have z := (FunD.ok (P := P) (w := w) (mg := mg) (base := base) (CX := L2.CX P w) (sp := sp) F S len fun cdv A outer s H vs Q E hr h => ⟨t E, hbody cdv A outer s H E hr, pure vs H Q E h⟩).raw (F.bindsN hb) .nil
  intro A outer s H us vs Q E hr e0 r hs
  exact z A outer s H us vs Q E hr e0 r (by show sp (vs ++ []) H Q E; rw [List.append_nil]; exact hs)
end
/-- the wish of a def's body: what leaves it leaves the def -/
abbrev EW (E : XK) : L2.St → XK := fun _ => E
theorem passD {P : Program} {w : World} {K : Frag} {mg : Str → Option Value} {base : Heap} {N : List Str} {qual : Str} {scope : Scope} {f : Addr} {cd : Value} {A : Around} {outer : List Env} {s : Shared} {H : Hp} {E : XK} :
    ∀ σ, PassesAt (L2.CX P w) (cxD P w K mg base N qual scope f cd A outer s H E) σ (EW E σ) := fun σ => passAt (takes_of rfl rfl rfl rfl) σ
theorem ownD {P : Program} {w : World} {K : Frag} {mg : Str → Option Value} {base : Heap} {N : List Str} {qual : Str} {scope : Scope} {f : Addr} {cd : Value} {A : Around} {outer : List Env} {s : Shared} {H : Hp} {E : XK} :
    PassesOwn (model P w) (cxD P w K mg base N qual scope f cd A outer s H E).A (cxD P w K mg base N qual scope f cd A outer s H E).env (cxD P w K mg base N qual scope f cd A outer s H E).xe := passes_of rfl
/-! ### named rests: the walk stops there -/
structure Stop (t : TS) (D : Ends) (σ : L2.St) (H : Hp) : Prop where
  go : t D σ H
def stop (t : TS) : TS := fun D σ H => Stop t D σ H
theorem pss_stop {X : Cx} {st : List Stmt} {t : TS} (h : PSs X st t) : PSs X st (stop t) := ⟨fun pins s σ H D I q => h.run pins s σ H D I q.go⟩
/-! ### the law's own def: nothing leaves it -/
theorem passL0 {X : Cx} : ∀ σ, PassesAt (L2.CX X.prog X.w) X σ (EW E0 σ) := fun _ _ _ _ _ _ _ h => by
  obtain ⟨_, _, _, _, _, _, _, _, _, _, _, _, z⟩ := h
  exact z.elim
theorem mk_law {P : Program} {w : World} {K : Frag} {mg : Str → Option Value} {base : Heap} {x qual : Str} {params : Arguments} {body : List Stmt} {scope : Scope} {f : Addr} {fd : FuncData} {N ps : List Str} {k : Nat} {sp : Sp} (F : FunD K x qual params body scope [] [] f fd) (S : FnScope N ps scope) (len : ∀ vs H Q E, sp vs H Q E → vs.length = ps.length)
    {t : XK → TS} (hbody : ∀ (cdv : Value) (A : Around) (outer : List Env) (s : Shared) (H : Hp) (E : XK), Room k (A.deeper (envOfC qual scope s.heap.objs.size f cdv)) →
      PSs (cxOf CX0 P w K mg base N qual scope f cdv A outer s H E).nox body (t E0))
    (pure : ∀ vs H Q E, sp vs H Q E → t E0 { nx := fun _ H' => Q .non H', rt := Q } (start N vs) H) : FnOk P w K mg base CX0 (k + 1) f fd ps sp :=
  FunD.ok F S len fun cdv A outer s H vs Q E hr h => ⟨t E0, PSs.nox (hbody cdv A outer s H E hr), pure vs H Q E h⟩
/-! ### comprehensions with one for -/
structure Wr (R : It → Hp → Prop) (J : It) (H : Hp) : Prop where
  go : R J H
theorem pi_wr {X : Cx} {tg iter : Expr} {wi : TI} (h : PI X tg iter wi) : PI X tg iter (fun σ H R => wi σ H (Wr R)) := ⟨fun pins s σ H R I q =>
  thn (h.run pins s σ H (Wr R) I q) fun _ _ z => thn z fun _ _ ⟨it, fp, tn, J, H', e, I', T, t0, f, r⟩ => ⟨it, fp, tn, J, H', e, I', T, t0, f, r.go⟩⟩
def LcGo (g : TG) (tt : TT) (te : TE) (vs : List Nat) (σ : L2.St) (Q : VK) (J : It) (H1 : Hp) : Prop :=
  ∀ D, H1 D = none → ∃ W : Nat → Nat → Hp → Prop, (∃ m, W 0 m (upd H1 D (.lst []))) ∧ ∀ i m H, W i m H →
    (J.stop i H ∧ Q (.ref D) H) ∨ (J.go i H ∧ ∃ Nx : Hp → Prop, (∀ H', Nx H' → ∃ m', m' < m ∧ W (i + 1) m' H') ∧ ∀ x H', J.yld i H x H' → g x (wipe σ vs) H' fun σ2 H2 => wipe σ2 vs = wipe σ vs ∧ tt σ2 H2 fun b H3 =>
      if b = true then te σ2 H3 fun y H4 => ∃ acc, H4 D = some (.lst acc) ∧ acc.length < sizeLine ∧ Nx (upd H4 D (.lst (acc ++ [y]))) else Nx H3)
def dLc (wi : TI) (g : TG) (tt : TT) (te : TE) (vs : List Nat) : TE := fun σ H Q => wi σ H (Wr (LcGo g tt te vs σ Q))
theorem pe_lc {X : Cx} {elt tg iter : Expr} {ifs : List Expr} {scope : Scope} {own : List (Str × Nat)} {pos : Pos} {wi : TI} {g : TG} {tt : TT} {te : TE} (hc : X.calm = true) (hN : X.N.Nodup) (hi : PI X tg iter wi) (ok : BlkOk X.N X.env.scope scope own)
    (hg : ∀ (s : Shared) (H : Hp) (C : Addr) (cl : List (Str × Addr)) (fp : List Addr), PG (X.blk s H scope (compEnvC scope cl C X.env) fp) tg g) (ht : ∀ (s : Shared) (H : Hp) (C : Addr) (cl : List (Str × Addr)) (fp : List Addr), PTs (X.blk s H scope (compEnvC scope cl C X.env) fp) ifs tt)
    (he : ∀ (s : Shared) (H : Hp) (C : Addr) (cl : List (Str × Addr)) (fp : List Addr), PE (X.blk s H scope (compEnvC scope cl C X.env) fp) elt te) (hs : ∀ x, foldedSetIterable iter X.env x = pure x := by intro _; rfl) :
    PE X (.ListComp elt [⟨tg, iter, ifs, 0⟩] scope pos) (dLc wi g tt te (own.map (·.2))) := L2.pe_lc hc hN (pi_wr hi) ok hg ht he hs
theorem ps_setLc {X : Cx} {i : Nat} {y : Str} {py : Pos} {elt tg iter : Expr} {ifs : List Expr} {scope : Scope} {own : List (Str × Nat)} {pos spos : Pos} {wi : TI} {g : TG} {tt : TT} {te : TE} (hc : X.calm = true) (hN : X.N.Nodup) (hy : X.N[i]? = some y) (hyl : X.env.scope.names.lookup y = some .local)
    (hsw : swapsWith (.ListComp elt [⟨tg, iter, ifs, 0⟩] scope pos) (some (.Name y py)) spos.line X.env = pure true) (hi : PI X tg iter wi) (ok : BlkOk X.N X.env.scope scope own)
    (hg : ∀ (s : Shared) (H : Hp) (C : Addr) (cl : List (Str × Addr)) (fp : List Addr), PG (X.blk s H scope (compEnvC scope cl C X.env) fp) tg g) (ht : ∀ (s : Shared) (H : Hp) (C : Addr) (cl : List (Str × Addr)) (fp : List Addr), PTs (X.blk s H scope (compEnvC scope cl C X.env) fp) ifs tt)
    (he : ∀ (s : Shared) (H : Hp) (C : Addr) (cl : List (Str × Addr)) (fp : List Addr), PE (X.blk s H scope (compEnvC scope cl C X.env) fp) elt te) (hs : ∀ x, foldedSetIterable iter X.env x = pure x := by intro _; rfl) :
    PS X (.Assign [.Name y py] (.ListComp elt [⟨tg, iter, ifs, 0⟩] scope pos) spos) (tAsg (dLc wi g tt te (own.map (·.2))) (gName i)) := L2.ps_setLc hc hN hy hyl hsw (pi_wr hi) ok hg ht he hs
theorem ifc {c : Prop} [Decidable c] {A B : Prop} (h1 : c → A) (h2 : ¬ c → B) : if decide c = true then A else B := by
  by_cases h : c
  · rw [decide_eq_true h]; exact iteT (h1 h)
  · rw [decide_eq_false h]; exact iteF (h2 h)
/-- over a list or a tuple, by a word over (turn, heap): the new list stands at D -/
theorem lc_seq {K : Frag} {p : Addr} {xs : List V} {g : TG} {tt : TT} {te : TE} {vs : List Nat} {σ : L2.St} {H1 : Hp} {Q : VK} (hx : SqA K H1 p xs)
    (h : ∀ D, H1 D = none → ∃ Pv : Nat → Hp → Prop, Pv 0 (upd H1 D (.lst [])) ∧ (∀ i H, i ≤ xs.length → Pv i H → ∀ ys, (SqL K H1 p ys → SqL K H p ys) ∧ (SqT K H1 p ys → SqT K H p ys)) ∧
      (∀ i x H, xs[i]? = some x → Pv i H → g x (wipe σ vs) H fun σ2 H2 => wipe σ2 vs = wipe σ vs ∧ tt σ2 H2 fun b H3 =>
        if b = true then te σ2 H3 fun y H4 => ∃ acc, H4 D = some (.lst acc) ∧ acc.length < sizeLine ∧ Pv (i + 1) (upd H4 D (.lst (acc ++ [y]))) else Pv (i + 1) H3) ∧ (∀ H, Pv xs.length H → Q (.ref D) H)) :
    Walk K H1 p (Wr (LcGo g tt te vs σ Q)) := by
  rcases hx with hx | hx
  · refine ⟨.inl ⟨⟨xs, hx⟩, ⟨fun D hD => ?_⟩⟩⟩
    obtain ⟨Pv, h0, hl, hs, hd⟩ := h D hD
    exact lc_list (Qd := fun H => Q (.ref D) H) Pv h0 (fun i H hi q => (hl i H hi q xs).1 hx) hs hd
  · refine ⟨.inr ⟨⟨xs, hx⟩, ⟨fun D hD => ?_⟩⟩⟩
    obtain ⟨Pv, h0, hl, hs, hd⟩ := h D hD
    exact lc_tup (Qd := fun H => Q (.ref D) H) Pv h0 (fun i H hi q => (hl i H hi q xs).2 hx) hs hd
/-- all but lists stays (dicts too) -/
def SameI (H H' : Hp) : Prop := ∀ b o, H b = some o → (∀ l, o ≠ .lst l) → H' b = some o
theorem Same.i {H H' : Hp} (e : Same H H') : SameI H H' := fun b o h _ => e b o h
theorem SameI.trans {H H1 H2 : Hp} (a : SameI H H1) (b : SameI H1 H2) : SameI H H2 := fun c o h n => b c o (a c o h n) n
theorem SameI.lst {H : Hp} {p : Addr} {xs ys : List V} (h : H p = some (.lst xs)) : SameI H (L2.upd H p (.lst ys)) := fun b o hb n => by
  by_cases e : b = p
  · subst e; rw [h] at hb; exact absurd (Option.some.inj hb).symm (n xs)
  · rw [upd_ne e]; exact hb
theorem SameX.i {st : Addr} {H H' : Hp} {xs : List V} (e : SameX st H H') (h : H st = some (.lst xs)) : SameI H H' := fun b o hb n => e b o hb fun z => by
  subst z; rw [h] at hb; exact n xs (Option.some.inj hb).symm
theorem SameI.tup {K : Frag} {H H' : Hp} {a : Addr} {xs : List V} (e : SameI H H') (h : SqT K H a xs) : SqT K H' a xs := by
  rcases h with (h | ⟨o, h⟩) | h
  · exact .inl (.inl (e _ _ h fun _ z => by cases z))
  · exact .inl (.inr ⟨o, e _ _ h fun _ z => by cases z⟩)
  · exact .inr h
theorem take_filter {xs : List V} {pr : V → Bool} {i : Nat} {x : V} (h : xs[i]? = some x) : (xs.take (i + 1)).filter pr = (xs.take i).filter pr ++ (if pr x = true then [x] else []) := by
  rw [List.take_succ, h, List.filter_append]
  congr 1
  show [x].filter pr = _
  by_cases e : pr x = true <;> simp [e]
/-- .. whose test is told by a function of the item, its elements by a relation -/
theorem lc_rel {K : Frag} {p : Addr} {xs : List V} {g : TG} {tt : TT} {te : TE} {vs : List Nat} {σ : L2.St} {H1 : Hp} {Q : VK} (R : V → V → Hp → Prop) (pr : V → Bool) (hx : SqA K H1 p xs) (hz : xs.length < sizeLine) (mono : ∀ x y H H', R x y H → SameI H H' → R x y H')
    (hs : ∀ x H (A : V → Hp → Prop) (B : Hp → Prop), x ∈ xs → Same H1 H → (∀ y H', Same H H' → R x y H' → pr x = true → A y H') → (∀ H', Same H H' → pr x = false → B H') →
      g x (wipe σ vs) H fun σ2 H2 => wipe σ2 vs = wipe σ vs ∧ tt σ2 H2 fun b H3 => if b = true then te σ2 H3 A else B H3)
    (hd : ∀ D ys H', H1 D = none → H' D = some (.lst ys) → Paired (fun x y => R x y H') (xs.filter pr) ys → Same H1 H' → Q (.ref D) H') :
    Walk K H1 p (Wr (LcGo g tt te vs σ Q)) := by
  refine lc_seq hx fun D hD => ⟨fun i H => ∃ ys, H D = some (.lst ys) ∧ Paired (fun x y => R x y H) ((xs.take i).filter pr) ys ∧ Same H1 H, ⟨[], upd_same, .nil, same_new hD⟩, fun i H _ ⟨_, _, _, e⟩ ys => ⟨e.seq, Same.tup e⟩, ?_, fun H ⟨ys, h1, h2, e⟩ => hd D ys H hD h1 (by rw [List.take_length] at h2; exact h2) e⟩
  rintro i x H hi ⟨ys, h1, h2, e⟩
  have hlen : ys.length ≤ i := by
    rw [← h2.length]
    exact Nat.le_trans (List.length_filter_le _ _) (by rw [List.length_take]; exact Nat.min_le_left _ _)
  have hil : i < xs.length := (List.getElem?_eq_some_iff.mp hi).1
  refine hs x H _ _ (List.mem_of_getElem? hi) e (fun y H' e2 r hp => ⟨ys, e2 _ _ h1, by omega, ys ++ [y], upd_same, ?_, ?_⟩) fun H' e2 hp => ⟨ys, e2 _ _ h1, ?_, e.trans e2⟩
  · have si : SameI H' (upd H' D (.lst (ys ++ [y]))) := SameI.lst (e2 _ _ h1)
    rw [take_filter hi, if_pos hp]
    exact Paired.snoc (Paired.mapP h2 fun a b r => mono _ _ _ _ r (SameI.trans (Same.i e2) si)) (mono _ _ _ _ r si)
  · intro b o hb
    rw [upd_ne (ne_of_none hb hD)]
    exact e2 _ _ (e _ _ hb)
  · rw [take_filter hi, if_neg (by rw [hp]; exact Bool.false_ne_true), List.append_nil]
    exact Paired.mapP h2 fun a b r => mono _ _ _ _ r (Same.i e2)
/-- .. whose test and elements are told by functions of the item -/
theorem lc_map {K : Frag} {p : Addr} {xs : List V} {g : TG} {tt : TT} {te : TE} {vs : List Nat} {σ : L2.St} {H1 : Hp} {Q : VK} (f : V → V) (pr : V → Bool) (hx : SqA K H1 p xs) (hz : xs.length < sizeLine)
    (hs : ∀ x H (A : V → Hp → Prop) (B : Hp → Prop), x ∈ xs → Same H1 H → (∀ H', Same H H' → pr x = true → A (f x) H') → (∀ H', Same H H' → pr x = false → B H') →
      g x (wipe σ vs) H fun σ2 H2 => wipe σ2 vs = wipe σ vs ∧ tt σ2 H2 fun b H3 => if b = true then te σ2 H3 A else B H3)
    (hd : ∀ D H', H1 D = none → H' D = some (.lst ((xs.filter pr).map f)) → Same H1 H' → Q (.ref D) H') :
    Walk K H1 p (Wr (LcGo g tt te vs σ Q)) := by
  refine lc_rel (fun x y _ => y = f x) pr hx hz (fun _ _ _ _ r _ => r) (fun x H A B hm e hA hB => hs x H A B hm e (fun H' e2 hp => hA _ _ e2 rfl hp) hB) fun D ys H' hn hD hp e => hd D H' hn ?_ e
  have key : ∀ {as bs : List V}, Paired (fun x y => y = f x) as bs → bs = as.map f := by
    intro as bs h
    induction h with
    | nil => rfl
    | cons r _ ih => rw [r, ih]; rfl
  rw [← key hp]; exact hD
end S
namespace S
open PySem PySem.Spec PyProof.Rows L2
/-! ### classes by their names -/
/-- the class x: below the classes ups of the text and the built-in ones tys -/
structure MF (K : Frag) (x : Str) (ups : List Str) (tys : List String) : Prop where
  cd : ∃ cd, PySem.W.clsIn K (He.ga K x) = some cd ∧ cd.name = x ∧ cd.mro = (x :: ups).map (fun y => Value.ref (He.ga K y)) ++ tys.map Value.type
  up : ∀ y ∈ ups, ∃ cd, PySem.W.clsIn K (He.ga K y) = some cd ∧ cd.name = y
  ty : PySem.W.typeIn K (.ref (He.ga K x)) = some (.type "type")
def nmB (K : Frag) (y : Str) : Bool := match PySem.W.clsIn K (He.ga K y) with
  | some cd => decide (cd.name = y)
  | none => false
theorem nmB_ok {K : Frag} {y : Str} (h : nmB K y = true) : ∃ cd, PySem.W.clsIn K (He.ga K y) = some cd ∧ cd.name = y := by
  unfold nmB at h
  split at h
  · rename_i cd e
    exact ⟨cd, e, of_decide_eq_true h⟩
  · cases h
def mfB (K : Frag) (x : Str) (ups : List Str) (tys : List String) : Bool := (match PySem.W.clsIn K (He.ga K x) with
  | some cd => decide (cd.name = x) && decide (cd.mro = (x :: ups).map (fun y => Value.ref (He.ga K y)) ++ tys.map Value.type)
  | none => false) && (ups.all (nmB K) && decide (PySem.W.typeIn K (.ref (He.ga K x)) = some (.type "type")))
theorem mfB_ok {K : Frag} {x : Str} {ups : List Str} {tys : List String} (h : mfB K x ups tys = true) : MF K x ups tys := by
  unfold mfB at h
  obtain ⟨h1, h2⟩ := He.ba h
  obtain ⟨h3, h4⟩ := He.ba h2
  refine ⟨?_, fun y hy => nmB_ok (List.all_eq_true.mp h3 y hy), of_decide_eq_true h4⟩
  split at h1
  · rename_i cd e
    obtain ⟨h5, h6⟩ := He.ba h1
    exact ⟨cd, e, of_decide_eq_true h5, of_decide_eq_true h6⟩
  · cases h1
theorem nm_inj {K : Frag} {x y : Str} (h1 : ∃ cd, PySem.W.clsIn K (He.ga K x) = some cd ∧ cd.name = x) (h2 : ∃ cd, PySem.W.clsIn K (He.ga K y) = some cd ∧ cd.name = y) (e : He.ga K x = He.ga K y) : x = y := by
  obtain ⟨c1, e1, n1⟩ := h1
  obtain ⟨c2, e2, n2⟩ := h2
  rw [e, e2] at e1
  cases e1
  exact n1.symm.trans n2
theorem MF.nm {K : Frag} {x : Str} {ups : List Str} {tys : List String} (m : MF K x ups tys) : ∃ cd, PySem.W.clsIn K (He.ga K x) = some cd ∧ cd.name = x := let ⟨cd, a, b, _⟩ := m.cd; ⟨cd, a, b⟩
theorem MF.all {K : Frag} {x : Str} {ups : List Str} {tys : List String} (m : MF K x ups tys) : ∀ y ∈ x :: ups, ∃ cd, PySem.W.clsIn K (He.ga K y) = some cd ∧ cd.name = y := fun y hy => by
  rcases List.mem_cons.mp hy with e | e
  · subst e; exact m.nm
  · exact m.up y e
section
variable {K : Frag} {x y : Str} {ups ups' : List Str} {tys tys' : List String}
theorem mf_sub (m : MF K x ups tys) (b : Value) : PySem.W.subIn K (.ref (He.ga K x)) b = some (decide (b ∈ (x :: ups).map (fun y => Value.ref (He.ga K y)) ++ tys.map Value.type)) := by
  obtain ⟨cd, e, _, hm⟩ := m.cd
  show PySem.W.mroIn K (He.ga K x) b = _
  unfold PySem.W.mroIn
  rw [e, Option.bind_some, hm, if_neg (by simp)]
  congr 1
  rw [Bool.eq_iff_iff]
  simp
theorem mf_cls (m : MF K x ups tys) (n : MF K y ups' tys') : PySem.W.kitCls K (.ref (He.ga K x)) (.ref (He.ga K y)) = some (decide (y ∈ x :: ups)) := by
  obtain ⟨cd, e, _⟩ := n.cd
  show (if ((PySem.W.clsIn K (He.ga K y)).isSome && PySem.W.typeIn K (.ref (He.ga K y)) == some (.type "type")) = true then PySem.W.subIn K (.ref (He.ga K x)) (.ref (He.ga K y)) else none) = _
  rw [if_pos (by rw [e, n.ty]; simp), mf_sub m]
  congr 1
  rw [decide_eq_decide]
  simp only [List.mem_append, List.mem_map]
  constructor
  · rintro (⟨z, hz, e⟩ | ⟨z, _, e⟩)
    · rw [← nm_inj (m.all z hz) n.nm (Value.ref.inj e)]
      exact hz
    · cases e
  · intro h
    exact .inl ⟨y, h, rfl⟩
theorem mf_kit (m : MF K x ups tys) (n : MF K y ups' tys') : PySem.W.kitOne K (.ref (He.ga K x)) (.ref (He.ga K y)) = some (decide (y ∈ x :: ups)) := by
  unfold PySem.W.kitOne
  split
  · rename_i h
    have e := nm_inj m.nm n.nm (Value.ref.inj (beq_iff_eq.mp h))
    subst e
    rw [decide_eq_true (List.mem_cons_self)]
  · exact mf_cls m n
theorem mf_exm (m : MF K x ups tys) (n : MF K y ups' tys') (hb : "BaseException" ∈ tys') : PySem.W.exmOne K (.ref (He.ga K x)) (.ref (He.ga K y)) = some (decide (y ∈ x :: ups)) := by
  unfold PySem.W.exmOne
  rw [if_pos, mf_cls m n]
  rw [mf_sub n, decide_eq_true]
  · rfl
  · exact List.mem_append.mpr (.inr (List.mem_map.mpr ⟨_, hb, rfl⟩))
/-- an instance of the class x against a built-in class -/
theorem mf_kty (m : MF K x ups tys) {n : String} (hk : PySem.W.kitMeta n = true) : PySem.W.kitOne K (.ref (He.ga K x)) (.type n) = some (decide (n ∈ tys)) := by
  unfold PySem.W.kitOne
  rw [if_neg (by simp)]
  show (if PySem.W.kitMeta n = true then PySem.W.subIn K (.ref (He.ga K x)) (.type n) else none) = _
  rw [if_pos hk, mf_sub m]
  congr 1
  rw [decide_eq_decide]
  simp
/-- a built-in type against the class y -/
theorem mf_tyk (n : MF K y ups' tys') {t : String} (ht : (PySem.fastBuiltinMro t).isSome = true) : PySem.W.kitOne K (.type t) (.ref (He.ga K y)) = some false := by
  unfold PySem.W.kitOne
  rw [if_neg (by simp)]
  obtain ⟨cd, e, _⟩ := n.cd
  show (if ((PySem.W.clsIn K (He.ga K y)).isSome && PySem.W.typeIn K (.ref (He.ga K y)) == some (.type "type")) = true then PySem.W.subIn K (.type t) (.ref (He.ga K y)) else none) = _
  rw [if_pos (by rw [e, n.ty]; simp)]
  show (PySem.fastBuiltinMro t).map (·.contains (.ref (He.ga K y))) = _
  obtain ⟨l, hl⟩ := Option.isSome_iff_exists.mp ht
  rw [hl]
  unfold PySem.fastBuiltinMro at hl
  obtain ⟨r, _, rfl⟩ := Option.map_eq_some_iff.mp hl
  rw [Option.map_some]
  congr 1
  rw [Bool.eq_false_iff]
  intro z
  rw [List.contains_iff_mem, List.mem_map] at z
  obtain ⟨_, _, e⟩ := z
  cases e
end
/-! ### classes with slots -/
structure CF (K : Frag) (x : Str) (fs : List Str) : Prop where
  mf : MF K x [] ["object"]
  sc : SlX.SCls K (He.ga K x)
  si : SlX.SIsi K (He.ga K x)
  sl : ∀ i f, fs[i]? = some f → SlX.Slot1 K (He.ga K x) f (He.ma K (He.ga K x) f) i
def sclsB (K : Frag) (C : Addr) : Bool := PySem.W.plainGet K C Str.empty && (PySem.W.isClsIn K C && (PySem.W.plainOver K C && He.eqO (PySem.W.findIn K (.ref C) "__setattr__") (some (some (.builtin "object.__setattr__")))))
theorem sclsB_ok {K : Frag} {C : Addr} (h : sclsB K C = true) : SlX.SCls K C := by
  obtain ⟨h1, h⟩ := He.ba h
  obtain ⟨h2, h⟩ := He.ba h
  obtain ⟨h3, h4⟩ := He.ba h
  exact ⟨h1, h2, h3, He.eqO_ok h4⟩
def sisiB (K : Frag) (C : Addr) : Bool := He.eqO (PySem.W.findIn K (.ref C) "__class__") (some (some (.builtin "object.__class__"))) && (He.eqO (PySem.W.specialIn K (.builtin "object.__class__") "__get__") (some (some (.builtin "getset_descriptor.__get__"))) &&
  (decide (PySem.W.takesIn K (.builtin "object.__class__") = some true) && decide (PySem.W.mroIn K C (.type "object") = some true)))
theorem sisiB_ok {K : Frag} {C : Addr} (h : sisiB K C = true) : SlX.SIsi K C := by
  obtain ⟨h1, h⟩ := He.ba h
  obtain ⟨h2, h⟩ := He.ba h
  obtain ⟨h3, h4⟩ := He.ba h
  exact ⟨He.eqO_ok h1, He.eqO_ok h2, of_decide_eq_true h3, of_decide_eq_true h4⟩
def slotB (K : Frag) (C : Addr) (f : Str) (p : Addr) (i : Nat) : Bool := He.eqO (PySem.W.findIn K (.ref C) f) (some (some (.ref p))) && (He.eqO (PySem.W.specialIn K (.ref p) "__get__") (some (some (.builtin "member_descriptor.__get__"))) &&
  (decide (PySem.W.takesIn K (.ref p) = some true) && (decide (PySem.W.typeIn K (.ref p) = some (.type "member_descriptor")) && (decide (PySem.W.slotIn K p C = some i) && decide (i < 1000)))))
theorem slotB_ok {K : Frag} {C : Addr} {f : Str} {p : Addr} {i : Nat} (h : slotB K C f p i = true) : SlX.Slot1 K C f p i := by
  obtain ⟨h1, h⟩ := He.ba h
  obtain ⟨h2, h⟩ := He.ba h
  obtain ⟨h3, h⟩ := He.ba h
  obtain ⟨h4, h⟩ := He.ba h
  obtain ⟨h5, h6⟩ := He.ba h
  exact ⟨He.eqO_ok h1, He.eqO_ok h2, of_decide_eq_true h3, of_decide_eq_true h4, of_decide_eq_true h5, of_decide_eq_true h6⟩
def slotsB (K : Frag) (C : Addr) : List Str → Nat → Bool
  | [], _ => true
  | f :: r, i => slotB K C f (He.ma K C f) i && slotsB K C r (i + 1)
theorem slotsB_ok {K : Frag} {C : Addr} : ∀ {fs : List Str} {n : Nat}, slotsB K C fs n = true → ∀ i f, fs[i]? = some f → SlX.Slot1 K C f (He.ma K C f) (n + i)
  | [], _, _, i, f, e => by simp at e
  | g :: r, n, h, i, f, e => by
    obtain ⟨h1, h2⟩ := He.ba (show (slotB K C g (He.ma K C g) n && slotsB K C r (n + 1)) = true from h)
    cases i with
    | zero =>
      have e' : g = f := by simpa using e
      subst e'
      exact slotB_ok h1
    | succ i =>
      have z := slotsB_ok h2 i f (by simpa using e)
      rw [show n + 1 + i = n + (i + 1) by omega] at z
      exact z
def cfB (x : Str) (fs : List Str) (K : Frag) : Bool := mfB K x [] ["object"] && (sclsB K (He.ga K x) && (sisiB K (He.ga K x) && slotsB K (He.ga K x) fs 0))
theorem cfB_ok {K : Frag} {x : Str} {fs : List Str} (h : cfB x fs K = true) : CF K x fs := by
  obtain ⟨h1, h⟩ := He.ba h
  obtain ⟨h2, h⟩ := He.ba h
  obtain ⟨h3, h4⟩ := He.ba h
  exact ⟨mfB_ok h1, sclsB_ok h2, sisiB_ok h3, fun i f e => by have z := slotsB_ok h4 i f e; rw [Nat.zero_add] at z; exact z⟩
/-! ### the exceptions -/
def veTys : List String := ["ValueError", "Exception", "BaseException", "object"]
structure ExF (K : Frag) (x : Str) (ups : List Str) : Prop where
  mf : MF K x ups veTys
  ec : L2.ExcC K (He.ga K x)
def excB (K : Frag) (D : Addr) : Bool := He.eqO (PySem.W.findIn K (.ref D) "__getattribute__") (some (some (.builtin "BaseException.__getattribute__"))) && (He.eqO (PySem.W.findIn K (.ref D) "__getattr__") (some none) && (decide (PySem.W.subIn K (.ref D) (.type "BaseException") = some true) &&
  (PySem.W.hasDictIn K D && (He.eqO (PySem.W.findIn K (.ref D) "__class__") (some (some (.builtin "object.__class__"))) && (He.eqO (PySem.W.specialIn K (.builtin "object.__class__") "__get__") (some (some (.builtin "getset_descriptor.__get__"))) &&
  (decide (PySem.W.takesIn K (.builtin "object.__class__") = some true) && decide (PySem.W.mroIn K D (.type "object") = some true)))))))
theorem excB_ok {K : Frag} {D : Addr} (h : excB K D = true) : L2.ExcC K D := by
  obtain ⟨h1, h⟩ := He.ba h
  obtain ⟨h2, h⟩ := He.ba h
  obtain ⟨h3, h⟩ := He.ba h
  obtain ⟨h4, h⟩ := He.ba h
  obtain ⟨h5, h⟩ := He.ba h
  obtain ⟨h6, h⟩ := He.ba h
  obtain ⟨h7, h8⟩ := He.ba h
  exact ⟨He.eqO_ok h1, He.eqO_ok h2, of_decide_eq_true h3, h4, He.eqO_ok h5, He.eqO_ok h6, of_decide_eq_true h7, of_decide_eq_true h8⟩
def exfB (x : Str) (ups : List Str) (K : Frag) : Bool := mfB K x ups veTys && excB K (He.ga K x)
theorem exfB_ok {K : Frag} {x : Str} {ups : List Str} (h : exfB x ups K = true) : ExF K x ups := by
  obtain ⟨h1, h2⟩ := He.ba h
  exact ⟨mfB_ok h1, excB_ok h2⟩
/-- what raising needs of a class without own __init__ -/
structure RsF (K : Frag) (x : Str) : Prop where
  q : PySem.W.excIn K (He.ga K x) He.veBase "ValueError.__new__" = true
  kp : PySem.W.keepIn K (.ref (He.ga K x)) = true
  sub : PySem.W.subIn K (.ref (He.ga K x)) (.type "BaseException") = some true
  ty : PySem.W.typeIn K (.ref (He.ga K x)) = some (.type "type")
def rsB (x : Str) (K : Frag) : Bool := (He.Fa.exc x).ok K
theorem rsB_ok {K : Frag} {x : Str} (h : rsB x K = true) : RsF K x := let ⟨a, b, c, d⟩ := He.exc_ok h; ⟨a, b, c, d⟩
/-! ### given facts -/
def dGiv (P : Prop) (t : TE) : TE := fun σ H Q => P → t σ H Q
theorem pe_giv {X : Cx} {e : Expr} {P : Prop} {t : TE} (p : P) (h : PE X e t) : PE X e (dGiv P t) := ⟨fun pins s σ H Q I q => h.run pins s σ H Q I (q p)⟩
def dGivS (P : Prop) (t : TS) : TS := fun D σ H => P → t D σ H
theorem ps_giv {X : Cx} {e : Stmt} {P : Prop} {t : TS} (p : P) (h : PS X e t) : PS X e (dGivS P t) := ⟨fun pins s σ H Q I q => h.run pins s σ H Q I (q p)⟩
/-! ### attributes -/
structure Atr (K : Frag) (H : Hp) (a : Addr) (f : Str) (k : V → Prop) : Prop where
  ex : (∃ C dx p vs i v, SlX.Slt H a C dx vs ∧ SlX.SCls K C ∧ SlX.Slot1 K C f p i ∧ vs[i]? = some (some v) ∧ k v) ∨ (∃ C dx fs v, H a = some (.ins C dx fs) ∧ Cls K C ∧ NoAttr K C f ∧ fs.lookup f = some v ∧ k v)
theorem Atr.sl {K : Frag} {H : Hp} {a dx : Addr} {f x : Str} {k : V → Prop} {fs : List Str} {vs : List (Option V)} {i : Nat} {v : V} (c : CF K x fs) (h : SlX.Slt H a (He.ga K x) dx vs) (e : fs[i]? = some f) (l : vs[i]? = some (some v)) (q : k v) : Atr K H a f k := ⟨.inl ⟨_, dx, _, vs, i, v, h, c.sc, c.sl i f e, l, q⟩⟩
def dAt (K : Frag) (f : Str) (ta : TE) : TE := fun σ H Q => ta σ H fun x H1 => match x with
  | .ref a => Atr K H1 a f fun v => Q v H1
  | _ => False
theorem pe_at {X : Cx} {e : Expr} {f : Str} {pos : Pos} {ta : TE} (he : PE X e ta) (hb : attributeBase e f X.env (eval e X.env) = eval e X.env := by rfl) : PE X (.Attribute e f pos) (dAt X.K f ta) := by
  refine ⟨fun pins s σ H Q I h => ?_⟩
  refine attr_of hb (thn (he.run pins s σ H _ I h) fun u s1 ⟨x, H1, I1, rx, q⟩ => ?_)
  cases x <;> try exact q.elim
  cases rx
  rcases q.ex with ⟨C, dx, p, vs, i, v, hs, c, t, l, q⟩ | ⟨C, dx, fs, v, ea, c, n, l, q⟩
  · exact SlX.getslot_ok I1 hs c t l fun u' s2 I2 ru => ⟨v, H1, I2, ru, q⟩
  · exact getattr_ok I1 ea c n l fun u' s2 I2 ru => ⟨v, H1, I2, ru, q⟩
structure Sto (K : Frag) (H : Hp) (a : Addr) (f : Str) (y : V) (k : Hp → Prop) : Prop where
  ex : (∃ C dx p vs i, SlX.Slt H a C dx vs ∧ SlX.SCls K C ∧ SlX.Slot1 K C f p i ∧ k (SlX.slH H a C dx (SlX.putS i y vs))) ∨ (∃ C dx fs, H a = some (.ins C dx fs) ∧ Cls K C ∧ NoAttr K C f ∧ fs.length < 1000 ∧ k (upd H a (.ins C dx (putF f y fs))))
theorem Sto.sl {K : Frag} {H : Hp} {a dx : Addr} {f x : Str} {k : Hp → Prop} {fs : List Str} {vs : List (Option V)} {i : Nat} {y : V} (c : CF K x fs) (h : SlX.Slt H a (He.ga K x) dx vs) (e : fs[i]? = some f) (q : k (SlX.slH H a (He.ga K x) dx (SlX.putS i y vs))) : Sto K H a f y k := ⟨.inl ⟨_, dx, _, vs, i, h, c.sc, c.sl i f e, q⟩⟩
def dSto (K : Frag) (f : Str) (tv ta : TE) : TS := fun D σ H => tv σ H fun y H1 => ta σ H1 fun x H2 => match x with
  | .ref a => Sto K H2 a f y fun H3 => D.nx σ H3
  | _ => False
theorem ps_sto {X : Cx} {o value : Expr} {f : Str} {pos pos' : Pos} {ta tv : TE} (hv : PE X value tv) (ha : PE X o ta) (hs : swapsWith value (some (.Attribute o f pos')) pos.line X.env = pure false := by rfl) : PS X (.Assign [.Attribute o f pos'] value pos) (dSto X.K f tv ta) := by
  refine ⟨fun pins s σ H D I h => ?_⟩
  refine plainObj_wpAny_Assign_Attribute (thn (hv.run pins s σ H _ I h) fun u s1 ⟨y, H1, I1, ry, q⟩ => thn (ha.run pins s1 σ H1 _ I1 q) fun ov s2 ⟨x, H2, I2, rx, q2⟩ => ?_) hs
  cases x <;> try exact q2.elim
  cases rx
  rcases q2.ex with ⟨C, dx, p, vs, i, hsl, c, t, q2⟩ | ⟨C, dx, fs, ea, c, n, l, q2⟩
  · exact SlX.setslot_ok I2 hsl c t ry fun s3 I3 => ⟨σ, _, I3, q2⟩
  · exact setattr_ok I2 ea c n l ry fun s3 I3 => ⟨σ, _, I3, q2⟩
/-! ### new instances -/
structure NewI (K : Frag) (H : Hp) (c : Str) (k : Addr → Hp → Prop) : Prop where
  go : ∀ x dx, H x = none → H dx = none → dx ≠ x → k x (upd (upd H dx (.own x)) x (.ins (He.ga K c) dx []))
def dMake (K : Frag) (c : Str) (sp : Sp) (E : L2.St → XK) (t : TA) : TE := fun σ H Q => t σ H fun vs H1 => NewI K H1 c fun x H2 => sp (.ref x :: vs) H2 (fun v H3 => v = .non ∧ Q (.ref x) H3) (E σ)
section
variable {X : Cx} {k : Nat} {g : Addr} {sp : Sp} {E : L2.St → XK} {x c m : Str} {p pos apos : Pos} {e o : Expr} {es : List Expr} {t : TA} {ta : TE}
theorem run_mk {pins : List (Addr × Obj)} {σ : L2.St} {H : Hp} {s : Shared} {Q : VK} {us : List Value} {vs : List V} (M : Mk X.K (He.ga X.K c) g) (F : FnR X.prog X.w X.K X.mg X.base (L2.CX X.prog X.w) k g sp) (hr : Room (k + 1) X.A) (hx : PassesAt (L2.CX X.prog X.w) X σ (E σ))
    (I : Inv X pins σ H s) (r : Vals vs us) (h : NewI X.K H c fun x H2 => sp (.ref x :: vs) H2 (fun v H3 => v = .non ∧ Q (.ref x) H3) (E σ)) : wpAny (model X.prog X.w) X.A (call (.ref (He.ga X.K c)) us) (EP X pins σ Q) X.xe s := by
  have hq := h.go (s.heap.objs.size + 1) s.heap.objs.size (I.hok.fresh (Nat.le_succ _)) (I.hok.fresh (Nat.le_refl _)) (Nat.ne_of_lt (Nat.lt_succ_self _))
  have I2 := Inv.made (C := He.ga X.K c) I
  have r2 : Vals (V.ref (s.heap.objs.size + 1) :: vs) (Value.ref (s.heap.objs.size + 1) :: us) := .cons rfl r
  refine wpAny_call (make_map (f := g) I.kIn M.makes M.init (beq_iff_eq.mp M.fn) (codeAny_mono (F _ X.stack _ _ (Value.ref (s.heap.objs.size + 1) :: us) _ _ (E σ) (hr.make (He.ga X.K c) us []) (I2.env0.make (He.ga X.K c) us []) r2 hq) fun r s' hq' => ?_))
  cases r with
  | error e => exact hx pins _ _ e s' I2 hq'
  | ok fl =>
    cases fl with
    | ret u =>
      obtain ⟨v, H', I3, rv, ev, q3⟩ := I2.after hq'
      subst ev
      exact ⟨rv, ⟨V.ref (s.heap.objs.size + 1), H', I3, rfl, q3⟩⟩
    | next => exact False.elim hq'
    | brk => exact False.elim hq'
    | cont => exact False.elim hq'
theorem pe_mk (M : Mk X.K (He.ga X.K c) g) (F : FnR X.prog X.w X.K X.mg X.base (L2.CX X.prog X.w) k g sp) (hr : Room (k + 1) X.A) (hm : X.mg c = some (.ref (He.ga X.K c))) (hx : ∀ σ, PassesAt (L2.CX X.prog X.w) X σ (E σ))
    (ha : PA X (e :: es) t) (hg : Gl X c := by rfl) (hdb : (c == ("__debug__" : Str)) = false := by decide) (he : starEach (e :: es) X.env = (false, eval e X.env) :: starEach es X.env := by rfl) (hpl : (backTo pos (starEach es X.env)).any (·.1) = false := by rfl) :
    PE X (.Call (.Name c p) (e :: es) [] pos) (dMake X.K c sp E t) := by
  refine ⟨fun pins s σ H Q I h => ?_⟩
  refine wpAny_Call_Name_kw (ld_glob I hg hm ?_ hdb)
  refine PySem.W.callWith_K (h₀ := X.base) I.ok.mod.kin M.kp (thn (ha.run pos pins s σ H _ I h) fun us s1 ⟨vs, H1, I1, r, q⟩ => ⟨I1.kIn, ?_⟩) he hpl
  exact run_mk M F hr (hx σ) I1 r q
/-! ### methods of instances with slots -/
structure IsO (K : Frag) (H : Hp) (c : Str) (a : Addr) (q : Prop) : Prop where
  ex : ∃ dx vs, SlX.Slt H a (He.ga K c) dx vs
  q : q
theorem IsO.of {K : Frag} {H : Hp} {c : Str} {a dx : Addr} {q : Prop} {vs : List (Option V)} (h : SlX.Slt H a (He.ga K c) dx vs) (h2 : q) : IsO K H c a q := ⟨⟨dx, vs, h⟩, h2⟩
def dMeth (K : Frag) (c : Str) (sp : Sp) (E : L2.St → XK) (ta : TE) (t : TA) : TE := fun σ H Q => ta σ H fun x H1 => match x with
  | .ref a => IsO K H1 c a (t σ H1 fun ws H2 => sp (.ref a :: ws) H2 Q (E σ))
  | _ => False
theorem pe_meth {pl : Sem Bool} (hc : SlX.SCls X.K (He.ga X.K c)) (hm : Meth X.K (He.ga X.K c) m g) (F : FnR X.prog X.w X.K X.mg X.base (L2.CX X.prog X.w) k g sp) (hr : Room k X.A) (hx : ∀ σ, PassesAt (L2.CX X.prog X.w) X σ (E σ)) (he : PE X o ta) (ha : PA X (e :: es) t)
    (hst : starEach (e :: es) X.env = (false, eval e X.env) :: starEach es X.env := by rfl) (hpl : (backTo pos (starEach es X.env)).any (·.1) = false := by rfl)
    (ht : eval (.Call (.Attribute o m apos) (e :: es) [] pos) X.env = (do
      let ov ← eval o X.env
      standAt apos.atName
      let (f, first) ← holding [ov] (getMethod ov m pl)
      callWith pos f first (backTo pos (starEach (e :: es) X.env)) (backToKw pos (keywordEach [] X.env))) := by rfl) :
    PE X (.Call (.Attribute o m apos) (e :: es) [] pos) (dMeth X.K c sp E ta t) := by
  refine ⟨fun pins s σ H Q I h => ?_⟩
  refine PySem.W.methodCall_KW (pl := pl) (thn (he.run pins s σ H _ I h) fun u s1 ⟨x, H1, I1, rx, q⟩ => ?_) ht
  cases x <;> try exact q.elim
  cases rx
  obtain ⟨⟨dx, vs, hsl⟩, q⟩ := q
  refine SlX.getmethsl_ok I1 hsl hc hm ?_
  refine PySem.W.callWith_K (first := [.ref _]) (h₀ := X.base) I.ok.mod.kin hm.kp (thn (ha.run pos pins s1 σ H1 _ I1 q) fun us s2 ⟨ws, H2, I2, r, q2⟩ => ⟨I2.kIn, ?_⟩) hst hpl
  exact run_R (us := .ref _ :: us) (vs := .ref _ :: ws) F hr (hx σ) I2 (.cons rfl r) q2
theorem pe_meth0 {pl : Sem Bool} (hc : SlX.SCls X.K (He.ga X.K c)) (hm : Meth X.K (He.ga X.K c) m g) (F : FnR X.prog X.w X.K X.mg X.base (L2.CX X.prog X.w) k g sp) (hr : Room k X.A) (hx : ∀ σ, PassesAt (L2.CX X.prog X.w) X σ (E σ)) (he : PE X o ta)
    (ht : eval (.Call (.Attribute o m apos) [] [] pos) X.env = (do
      let ov ← eval o X.env
      standAt apos.atName
      let (f, first) ← holding [ov] (getMethod ov m pl)
      callWith pos f first (backTo pos (starEach [] X.env)) (backToKw pos (keywordEach [] X.env))) := by rfl) :
    PE X (.Call (.Attribute o m apos) [] [] pos) (dMeth X.K c sp E ta tNil) := by
  refine ⟨fun pins s σ H Q I h => ?_⟩
  refine PySem.W.methodCall_KW (pl := pl) (thn (he.run pins s σ H _ I h) fun u s1 ⟨x, H1, I1, rx, q⟩ => ?_) ht
  cases x <;> try exact q.elim
  cases rx
  obtain ⟨⟨dx, vs, hsl⟩, q⟩ := q
  refine SlX.getmethsl_ok I1 hsl hc hm ?_
  exact PySem.W.callWith_K0 (first := [.ref _]) I1.kIn hm.kp (run_R (us := [.ref _]) (vs := [.ref _]) F hr (hx σ) I1 (.cons rfl .nil) q)
/-- x in o, o an instance whose class has its own __contains__ -/
def oInO (K : Frag) (c : Str) (sp : Sp) (E : XK) : R2 := fun x y H Q => match y with
  | .ref a => IsO K H c a (sp [.ref a, x] H (isB fun b H' => Q (.bl b) H') E)
  | _ => False
theorem op_inO {E : XK} (hm : Meth X.K (He.ga X.K c) "__contains__" g) (F : FnR X.prog X.w X.K X.mg X.base (L2.CX X.prog X.w) k g sp) (hr : Room k X.A) (hx : ∀ σ, PassesAt (L2.CX X.prog X.w) X σ E) : OpR X (compareOp .In) (oInO X.K c sp E) := by
  intro pins s σ H x y v u Q I rx ry q
  cases y <;> try exact q.elim
  cases ry
  obtain ⟨⟨dx, vs, hsl⟩, q⟩ := q
  obtain ⟨sl, od, _, J, _⟩ := SlX.slt_inst I hsl
  obtain ⟨m, hF⟩ := I.fr
  refine PySem.W.in_K hF I.ok.mod.kin J hm.at_ hm.fn ?_
  refine wpAny_mono (run_R (us := [.ref _, v]) (vs := [.ref _, x]) (E := fun _ => E) F hr (hx σ) I (.cons rfl (.cons rx .nil)) q) (fun w s' z => ?_) fun _ _ x => x
  obtain ⟨z', H', I', rz, qz⟩ := z
  obtain ⟨b, e, qz⟩ := isB_ex qz
  subst e
  cases rz
  exact wpAny_truthy_bool ⟨.bl b, H', I', rfl, qz⟩
/-- o.f, a property -/
structure PropF (K : Frag) (c f : Str) (g : Addr) : Prop where
  at_ : PySem.W.findIn K (.ref (He.ga K c)) f = some (some (.ref (He.ma K (He.ga K c) f)))
  get : PySem.W.specialIn K (.ref (He.ma K (He.ga K c) f)) "__get__" = some (some (.builtin "property.__get__"))
  tk : PySem.W.takesIn K (.ref (He.ma K (He.ga K c) f)) = some true
  rc : ∃ rest, PySem.W.recIn K (He.ma K (He.ga K c) f) "property" = some (.ref g :: rest)
def dProp (K : Frag) (c : Str) (sp : Sp) (ta : TE) : TE := fun σ H Q => ta σ H fun x H1 => match x with
  | .ref a => IsO K H1 c a (sp [.ref a] H1 Q E0)
  | _ => False
theorem pe_prop {f : Str} {n : Nat} (hc : SlX.SCls X.K (He.ga X.K c)) (pf : PropF X.K c f g) (F : FnR X.prog X.w X.K X.mg X.base (L2.CX X.prog X.w) n g sp) (hr : Room (n + 1) X.A) (he : PE X e ta)
    (hb : attributeBase e f X.env (eval e X.env) = eval e X.env := by rfl) : PE X (.Attribute e f pos) (dProp X.K c sp ta) := by
  refine ⟨fun pins s σ H Q I h => ?_⟩
  refine attr_of hb (thn (he.run pins s σ H _ I h) fun w s1 ⟨x, H1, I1, rx, q⟩ => ?_)
  cases x <;> try exact q.elim
  cases rx
  obtain ⟨⟨dx, vs, hsl⟩, q⟩ := q
  exact SlX.getprop_sl (CX := L2.CX X.prog X.w) (E := E0) I1 hsl hc pf.at_ pf.get pf.tk pf.rc F hr (fun _ _ _ _ h => by obtain ⟨_, _, _, _, _, _, _, _, _, _, _, _, z⟩ := h; exact z.elim) q
end
/-! ### raise, try -/
def WD (E : XK) : WX := fun c d _ H => E c d H
def WN : WX := fun _ _ _ _ => False
theorem takes_never {X : Cx} : Takes X WN := fun u s' h => by
  obtain ⟨_, _, _, _, _, _, _, _, _, _, _, _, _, _, _, _, z⟩ := h
  exact z.elim
theorem takesD {P : Program} {w : World} {K : Frag} {mg : Str → Option Value} {base : Heap} {N : List Str} {qual : Str} {scope : Scope} {f : Addr} {cd : Value} {A : Around} {outer : List Env} {s : Shared} {H : Hp} {E : XK} :
    Takes (cxD P w K mg base N qual scope f cd A outer s H E) (WD E) := takes_of rfl rfl rfl rfl
theorem takesL {X : Cx} : Takes X (WD E0) := fun u s' h => by
  obtain ⟨_, _, _, _, _, _, _, _, _, _, _, _, _, _, _, _, z⟩ := h
  exact z.elim
def dRaise (K : Frag) (x : Str) (W : WX) : TS := fun _ σ H => W (.ref (He.ga K x)) none σ H
theorem ps_rs {X : Cx} {x m : Str} {j : Nat} {p p2 pos pos' : Pos} {W : WX} (tk : Takes X W) (r : RsF X.K x) (gC : X.mg x = some (.ref (He.ga X.K x))) (hc : X.calm = true := by rfl) (hg : Gl X x := by rfl) (hdb : (x == ("__debug__" : Str)) = false := by decide) :
    PS X (.Raise (some (.Call (.Name x p) [.Constant (.str m) j p2] [] pos)) none pos') (dRaise X.K x W) := ps_raise hc tk (pmk_own PySem.F.excBase_ValueError r.q gC r.kp (raises_own r.sub r.ty) hg hdb)
theorem hdl_yes {K : Frag} {cls c : Value} {i : Nat} {ts : Addr → Value → Option Addr → TS} {Wout : WX} {D : Ends} {d : Option Addr} {σ : L2.St} {H : Hp} (h : PySem.W.exmOne K cls c = some true)
    (q : ∀ a, H a = none → ts a cls d { nx := fun σ' H' => D.nx (σ'.set i none) H', rt := D.rt, bk := fun σ' H' => D.bk (σ'.set i none) H', ct := fun σ' H' => D.ct (σ'.set i none) H' } (σ.set i (some (.ref a))) H) : wAs K c i ts Wout D cls d σ H :=
  ⟨true, h, fun _ => q, fun z => nomatch z⟩
theorem hdl_no {K : Frag} {cls c : Value} {i : Nat} {ts : Addr → Value → Option Addr → TS} {Wout : WX} {D : Ends} {d : Option Addr} {σ : L2.St} {H : Hp} (h : PySem.W.exmOne K cls c = some false) (q : Wout cls d σ H) : wAs K c i ts Wout D cls d σ H :=
  ⟨false, h, (fun z => nomatch z), fun _ => q⟩
def dTry (K : Frag) (c : Str) (i : Nat) (tb : WX → TS) (ts : Addr → Value → Option Addr → TS) (Wout : WX) : TS := fun D σ H => tb (wAs K (.ref (He.ga K c)) i ts Wout D) D σ H
theorem ps_try {X : Cx} {c n : Str} {i : Nat} {body suite : List Stmt} {b₀ : Stmt} {np pos pos' : Pos} {tb : WX → TS} {ts : Addr → Value → Option Addr → TS} {Wout : WX} (hN : X.N.Nodup) (gc : X.mg c = some (.ref (He.ga X.K c))) (tk : Takes X Wout)
    (hb : ∀ (W : WX) (pn : List (Addr × Obj)) (xe : Value → Shared → Prop), Takes (X.tr pn xe) W → PassesOwn (model X.prog X.w) X.A X.env xe → PSs (X.tr pn xe) body (tb W))
    (hsu : ∀ (a : Addr) (oe : Obj) (cls : Value) (d : Option Addr) (pn : List (Addr × Obj)), Zc cls d oe → (∃ vs, oe.data = .fields vs) → PSs (X.suite a ((a, oe) :: pn)) (b₀ :: suite) (ts a cls d))
    (hs : X.stack = X.env :: X.outer := by rfl) (hf : X.env.frame = some X.env.locals := by rfl) (hi : X.N[i]? = some n := by rfl) (hln : X.env.kindOf n = some .local := by rfl) (hg : Gl X c := by rfl) (hdb : (c == ("__debug__" : Str)) = false := by decide) :
    PS X (.Try body [.ExceptHandler (some (.Name c np)) (some n) (b₀ :: suite) pos'] [] [] pos) (dTry X.K c i tb ts Wout) := ps_try_as hs hf hN hi hln ⟨hg, hdb, .inl gc⟩ tk hb hsu
/-- isinstance(e, c), e the exception of the suite -/
structure IsE (K : Frag) (H : Hp) (a : Addr) (cls : Value) (d : Option Addr) (p : Addr) (u : Value) (k : Bool → Prop) : Prop where
  ex : ∃ D b, p = a ∧ cls = .ref D ∧ L2.ExcC K D ∧ (∀ dx, d = some dx → ∃ o, H dx = some o) ∧ PySem.W.kitOne K (.ref D) u = some b ∧ k b
theorem IsE.of {K : Frag} {H : Hp} {a D : Addr} {u : Value} {k : Bool → Prop} {b : Bool} (h : L2.ExcC K D) (e : PySem.W.kitOne K (.ref D) u = some b) (q : k b) : IsE K H a (.ref D) none a u k := ⟨D, b, rfl, rfl, h, (fun _ z => nomatch z), e, q⟩
theorem IsE.ofd {K : Frag} {H : Hp} {a D dx : Addr} {o : HO} {u : Value} {k : Bool → Prop} {b : Bool} (h : L2.ExcC K D) (hd : H dx = some o) (e : PySem.W.kitOne K (.ref D) u = some b) (q : k b) : IsE K H a (.ref D) (some dx) a u k := ⟨D, b, rfl, rfl, h, (fun _ z => by cases z; exact ⟨o, hd⟩), e, q⟩
def cIsE (K : Frag) (a : Addr) (cls : Value) (d : Option Addr) : List V → Hp → VK → Prop := fun xs H Q => match xs with
  | [.ref p, .ty n] => IsE K H a cls d p (.type n) fun b => Q (.bl b) H
  | [.ref p, .ref C] => IsE K H a cls d p (.ref C) fun b => Q (.bl b) H
  | _ => False
theorem ise_call {X : Cx} {a : Addr} {cls : Value} {d : Option Addr} {oe : Obj} {pn pins : List (Addr × Obj)} {σ : L2.St} {H : Hp} {s : Shared} {p : Addr} {c : V} {cv : Value} {us : List Value} {Q : VK} (hz : Zc cls d oe) (hf : ∃ vs, oe.data = .fields vs) (I : Inv (X.suite a ((a, oe) :: pn)) pins σ H s) (r : Vals [.ref p, c] us)
    (hc : ∀ u, RelV c u → u = cv) (h : IsE X.K H a cls d p cv fun b => Q (.bl b) H) : wpAny (model X.prog X.w) (X.suite a ((a, oe) :: pn)).A (call (.builtin "isinstance") us) (EP (X.suite a ((a, oe) :: pn)) pins σ Q) (X.suite a ((a, oe) :: pn)).xe s := by
  obtain ⟨D, b, e1, e2, hD, hd, hk, q⟩ := h
  subst e1 e2
  cases r with
  | cons rx rr =>
    cases rr with
    | cons rt rr =>
      cases rr
      cases rx
      have ec := hc _ rt
      subst ec
      obtain ⟨hget, _⟩ := I.pin (p, oe) (List.mem_append.mpr (.inl List.mem_cons_self))
      obtain ⟨vs, hv⟩ := hf
      have hcl : (PySem.W.clsIn X.K D).isSome = true := by
        obtain ⟨cd, hc, _⟩ := PySem.W.any_some hD.hd
        rw [hc]; rfl
      have J : ∃ od, PySem.W.InstAt s.heap p oe D od := by
        obtain ⟨oc, od, oda, osl⟩ := oe
        obtain ⟨h1, h2⟩ := hz
        dsimp only at h1 h2 hv
        subst h1 h2 hv
        cases od with
        | none => exact ⟨none, hget, rfl, rfl, trivial⟩
        | some dx =>
          obtain ⟨o, ho⟩ := hd dx rfl
          obtain ⟨oo, hoo⟩ := objOk_get (I.hok dx o ho)
          exact ⟨some oo, hget, rfl, rfl, hoo⟩
      obtain ⟨od, J⟩ := J
      exact PySem.W.kia_one (PySem.W.kitx_exc hcl hD.hg hD.hk hD.hs hD.ha hD.hn hD.ht hD.hm) I.kIn J hk (fun z => nomatch z) fun tk => ⟨.bl b, H, I.kept (t' := tk) fun _ _ z => z, rfl, q⟩
theorem c_ise {X : Cx} {a : Addr} {cls : Value} {d : Option Addr} {oe : Obj} {pn : List (Addr × Obj)} (hz : Zc cls d oe) (hf : ∃ vs, oe.data = .fields vs) : CallR (X.suite a ((a, oe) :: pn)) (.builtin "isinstance") (cIsE X.K a cls d) := by
  intro pins s σ H xs us Q I r h
  match xs, h with
  | [.ref p, .ty n], h => exact ise_call hz hf I r (fun u z => z) h
  | [.ref p, .ref C], h => exact ise_call hz hf I r (fun u z => z) h
/-! ### defaults -/
def EmpT (K : Frag) (v : V) : Prop := ∃ a, v = .ref a ∧ ∀ H, SqT K H a []
def empA (K : Frag) (a : Addr) : Bool := match K.lookup a with
  | some ⟨.type c, _, .seq its _, _⟩ => decide (c = "tuple") && decide (its = #[])
  | _ => false
def empB (K : Frag) (v : V) : Bool := match v with
  | .ref a => empA K a
  | _ => false
theorem empB_ok {K : Frag} {v : V} (h : empB K v = true) : EmpT K v := by
  cases v with
  | ref a =>
    refine ⟨a, rfl, fun H => ?_⟩
    have h : empA K a = true := h
    unfold empA at h
    split at h
    · rename_i c od its n osl q
      obtain ⟨h1, h2⟩ := He.ba h
      have e : its = #[] := of_decide_eq_true h2
      subst e
      exact .inr ⟨_, #[], n, q, congrArg Value.type (of_decide_eq_true h1), rfl, by simp, .nil⟩
    · cases h
  | _ => cases h
def spD (sp : Sp) (dvs : List V) : Sp := fun vs H Q E => sp (vs ++ dvs) H Q E
theorem mk_fnD {P : Program} {w : World} {K : Frag} {mg : Str → Option Value} {base : Heap} {x qual : Str} {params : Arguments} {body : List Stmt} {scope : Scope} {f : Addr} {fd : FuncData} {N ps : List Str} {k : Nat} {sp : Sp} {dvs ex : List V} {kws : List (Str × V)} (F : FunD K x qual params body scope dvs kws f fd) (S : FnScope N ps scope)
    (len : ∀ vs H Q E, sp vs H Q E → vs.length = ps.length) (hb : ∃ ds, Vals ex ds ∧ Binds K fd ps ds) {t : XK → TS}
    (hbody : ∀ (cdv : Value) (A : Around) (outer : List Env) (s : Shared) (H : Hp) (E : XK), Room k (A.deeper (envOfC qual scope s.heap.objs.size f cdv)) →
      PSs (cxD P w K mg base N qual scope f cdv A outer s H E) body (t E))
    (pure : ∀ vs H Q E, sp vs H Q E → t E { nx := fun _ H' => Q .non H', rt := Q } (start N vs) H) : FR P w K mg base (k + 1) f (spD sp ex) := by
  obtain ⟨ds, hv, hb⟩ := hb
  exact (FunD.ok (P := P) (w := w) (mg := mg) (base := base) (CX := L2.CX P w) (sp := sp) F S len fun cdv A outer s H vs Q E hr h => ⟨t E, hbody cdv A outer s H E hr, pure vs H Q E h⟩).raw hb hv
theorem spD_nil {P : Program} {w : World} {K : Frag} {mg : Str → Option Value} {base : Heap} {f : Addr} {k : Nat} {sp : Sp} (F : FR P w K mg base k f (spD sp [])) : FR P w K mg base k f sp :=
  FnR.imp F fun vs H Q E h => by show sp (vs ++ []) H Q E; rw [List.append_nil]; exact h
/-! ### functions behind wrappers -/
def uA (K : Frag) (c m : Str) : Addr := match PySem.W.recIn K (He.ma K (He.ga K c) m) "property" with
  | some (.ref g :: _) => g
  | _ => (match PySem.W.recIn K (He.ma K (He.ga K c) m) "staticmethod" with
    | some (.ref g :: _) => g
    | _ => 0)
def propB (c f : Str) (K : Frag) : Bool := He.eqO (PySem.W.findIn K (.ref (He.ga K c)) f) (some (some (.ref (He.ma K (He.ga K c) f)))) && (He.eqO (PySem.W.specialIn K (.ref (He.ma K (He.ga K c) f)) "__get__") (some (some (.builtin "property.__get__"))) &&
  (decide (PySem.W.takesIn K (.ref (He.ma K (He.ga K c) f)) = some true) && (match PySem.W.recIn K (He.ma K (He.ga K c) f) "property" with
    | some (.ref g :: _) => decide (g = uA K c f)
    | _ => false)))
theorem propB_ok {K : Frag} {c f : Str} (h : propB c f K = true) : PropF K c f (uA K c f) := by
  obtain ⟨h1, h⟩ := He.ba h
  obtain ⟨h2, h⟩ := He.ba h
  obtain ⟨h3, h4⟩ := He.ba h
  refine ⟨He.eqO_ok h1, He.eqO_ok h2, of_decide_eq_true h3, ?_⟩
  split at h4
  · rename_i g r e
    rw [of_decide_eq_true h4] at e
    exact ⟨r, e⟩
  · cases h4
/-! ### defs by their addresses -/
structure DfX where
  ad : Frag → Addr
  name : Str
  qual : Str
  params : Arguments
  body : List Stmt
  scope : Scope
  dfl : List He.Dv := []
  kwd : List (Str × He.Dv) := []
  clo : List Str := []
def fnX (K : Frag) (a : Addr) : He.FnW := match K.lookup a with
  | some ⟨_, _, .func fd, _⟩ => some (fd.name, fd.qualname, fd.params, fd.body, fd.scope, fd.globals, fd.closure.map (fun c => (c.1, (0 : Addr))), fd.builtins)
  | _ => none
def DfX.val (d : DfX) : He.FnW := some (d.name, d.qual, d.params, .stmts d.body, d.scope, mainGlobals, d.clo.map (fun n => (n, (0 : Addr))), builtinsNs)
def DfX.dvs (K : Frag) (d : DfX) : List V := d.dfl.map (He.Dv.v K)
def DfX.kws (K : Frag) (d : DfX) : List (Str × V) := d.kwd.map fun q => (q.1, q.2.v K)
def DfX.ok (K : Frag) (d : DfX) : Bool := PySem.W.keepIn K (.ref (d.ad K)) && (match K.lookup (d.ad K) with
  | some ⟨_, _, .func fd, _⟩ => PySem.W.codeIn K fd.code d.qual && (He.dflB K fd.defaults (d.dvs K) && He.kwdB K fd.kwdefaults (d.kws K))
  | _ => false)
theorem DfX.funD {K : Frag} {d : DfX} (hclo : d.clo = []) (e : fnX K (d.ad K) = d.val) (c : d.ok K = true) : ∃ fd, FunD K d.name d.qual d.params d.body d.scope (d.dvs K) (d.kws K) (d.ad K) fd := by
  obtain ⟨kp, c2⟩ := He.ba c
  unfold fnX at e
  split at e
  · rename_i oc od fd osl q
    rw [q] at c2
    obtain ⟨k1, k2⟩ := He.ba c2
    obtain ⟨k3, k4⟩ := He.ba k2
    obtain ⟨n1, n2, n3, n4, n5, n6, n7, n8, n9, n10, n11, n12, n13, n14, n15⟩ := fd
    unfold DfX.val at e
    rw [hclo] at e
    simp only [Option.some.injEq, Prod.mk.injEq, List.map_nil, List.map_eq_nil_iff] at e
    obtain ⟨h1, h2, h3, h4, h5, h6, h7, h8⟩ := e
    subst h1 h2 h3 h4 h5 h6 h7 h8
    exact ⟨_, ⟨oc, od, n8, n9, n10, n11, n12, n13, n14, osl, rfl, q, k1, He.dflB_ok k3, He.kwdB_ok k4⟩, kp⟩
  · cases e
/-! ### the hook -/
abbrev AlX : Type := Bool × List He.FnW
def obsK (fa : List He.Fa) (fx : List (Frag → Bool)) (fn : List DfX) (K : Frag) : AlX := ((fa.all fun f => f.ok K) && ((fx.all fun f => f K) && fn.all fun d => d.ok K), fn.map fun d => fnX K (d.ad K))
def valX (fn : List DfX) : AlX := (true, fn.map DfX.val)
def SaysX (fa : List He.Fa) (fx : List (Frag → Bool)) (fn : List DfX) (K : Frag) : Prop := obsK fa fx fn K = valX fn
/-- what the names reach in n steps, the statics, the cells of closures -/
def asX (g : Addr → Option Obj) (n : Nat) : List Addr := let l := He.asD g n ++ [cStatics]
  l ++ l.flatMap fun a => match g a with
    | some ⟨_, _, .func fd, _⟩ => fd.closure.map (·.2)
    | _ => []
def obsXG (n : Nat) (fa : List He.Fa) (fx : List (Frag → Bool)) (fn : List DfX) (g : Addr → Option Obj) : AlX := obsK fa fx fn (He.frG g (asX g n))
def hookX (n : Nat) (fa : List He.Fa) (fx : List (Frag → Bool)) (fn : List DfX) : PySem.W.Hook where
  α := AlX
  obs := fun s => obsXG n fa fx fn s.heap.get?
  val := fun _ => valX fn
  says := fun _ h => ∃ K : Frag, K.In h ∧ SaysX fa fx fn K
  of := fun _ _ e => ⟨_, He.frG_in, e⟩
  keeps := fun _ _ _ ⟨K, hK, c⟩ k => ⟨K, PySem.W.Frag.In.keeps hK k, c⟩
theorem obsXG_eq {n : Nat} {fa : List He.Fa} {fx : List (Frag → Bool)} {fn : List DfX} {g : Addr → Option Obj} {s : Shared} (h : ∀ a, g a = s.heap.get? a) : obsXG n fa fx fn g = (hookX n fa fx fn).obs s := by
  have e : g = s.heap.get? := funext h
  rw [e] <;> rfl
section
variable {fa : List He.Fa} {fx : List (Frag → Bool)} {fn : List DfX} {K : Frag}
theorem SaysX.fst (c : SaysX fa fx fn K) : (fa.all fun f => f.ok K) = true ∧ (fx.all fun f => f K) = true ∧ (fn.all fun d => d.ok K) = true := by
  have z : ((fa.all fun f => f.ok K) && ((fx.all fun f => f K) && fn.all fun d => d.ok K)) = true := congrArg (fun z : AlX => z.1) c
  obtain ⟨a, b⟩ := He.ba z
  exact ⟨a, He.ba b⟩
theorem SaysX.fact (c : SaysX fa fx fn K) (i : Nat) {f : He.Fa} (h : fa[i]? = some f := by rfl) : f.ok K = true := List.all_eq_true.mp c.fst.1 f (List.mem_of_getElem? h)
theorem SaysX.more (c : SaysX fa fx fn K) (i : Nat) {f : Frag → Bool} (h : fx[i]? = some f := by rfl) : f K = true := List.all_eq_true.mp c.fst.2.1 f (List.mem_of_getElem? h)
theorem SaysX.fnv (c : SaysX fa fx fn K) (i : Nat) {d : DfX} (h : fn[i]? = some d := by rfl) : fnX K (d.ad K) = d.val := by
  have e : fn.map (fun d => fnX K (d.ad K)) = fn.map DfX.val := congrArg (fun z : AlX => z.2) c
  have e2 : (fn.map fun d => fnX K (d.ad K))[i]? = (fn.map DfX.val)[i]? := by rw [e]
  rw [List.getElem?_map, List.getElem?_map, h] at e2
  exact Option.some.inj e2
theorem SaysX.def_ (c : SaysX fa fx fn K) (i : Nat) {d : DfX} (h : fn[i]? = some d := by rfl) (hclo : d.clo = [] := by rfl) : ∃ fd, FunD K d.name d.qual d.params d.body d.scope (d.dvs K) (d.kws K) (d.ad K) fd := by
  have e : fn.map (fun d => fnX K (d.ad K)) = fn.map DfX.val := congrArg (fun z : AlX => z.2) c
  have e2 : (fn.map fun d => fnX K (d.ad K))[i]? = (fn.map DfX.val)[i]? := by rw [e]
  rw [List.getElem?_map, List.getElem?_map, h] at e2
  exact DfX.funD hclo (Option.some.inj e2) (List.all_eq_true.mp c.fst.2.2 d (List.mem_of_getElem? h))
end
end S
namespace S
open PySem PySem.Spec PyProof.Rows L2
/-! ### bool(x): by its truth -/
theorem isType_bool : isType (.type "bool") = (pure true : Sem Bool) := by first | rfl | kernel_rfl
theorem bool_tr {prog : Program} {w : World} {A : Around} {E : Value → Shared → Prop} {s : Shared} {x : Value} {Q : Value → Shared → Prop} (h : wpAny (model prog w) A.in1.in1 (truthy x) (fun b s' => Q (.bool b) s') E s) : wpAny (model prog w) A (call (.type "bool") [x]) Q E s := by
  refine callType_codes (T := "bool") (Bi := Builtin.«object.__init__») (Q₁ := fun r s₁ => ∃ b, r = Value.bool b ∧ Q r s₁) PySem.F.called_bool (PySem.F.typeCall_bool_1 _) PySem.F.entry_object_init ?_ ?_
  · refine codeAny_of_tree ?_
    show wpAny _ A.in1.in1 (do checkBuiltinCall "bool.__new__" ⟨[.type "bool", x], []⟩; again (.builtin "bool.__new__" ⟨[.type "bool", x], []⟩)) _ _ s
    refine wpAny_bind (wpAny_of_eq (PySem.F.newCall_bool_1 _) (wpAny_pure ⟨plainId_quiet (by decide +kernel) _, codeAny_builtin PySem.F.entry_bool_new ?_⟩))
    rw [Around.under_plainId (by decide +kernel) _]
    unfold Builtin.«bool.__new__»
    refine wpAny_bind (wpAny_of_eq (a := true) isType_bool ?_)
    refine PySem.W.KFB.if_not rfl ?_
    refine wpAny_bind (wpAny_of_eq (a := true) PySem.F.conv_sub_bool ?_)
    refine PySem.W.KFB.if_not rfl ?_
    refine wpAny_bind (wpAny_of_eq (a := [x]) (by first | rfl | kernel_rfl) ?_)
    refine wpAny_bind (wpAny_mono h (fun b s₁ hb => ?_) fun _ _ y => y)
    exact wpAny_pure ⟨b, rfl, hb⟩
  · rintro obj s₁ ⟨b, rfl, hq⟩
    exact ⟨PySem.typeIs_bool _ _, PySem.F.args_object_init_2 _ _, object_init_meets PySem.F.called_bool.init.lookup PySem.F.called_bool.made (by decide) prog w A.in1 _ s₁ ⟨PySem.typeIs_bool _ _, rfl, hq⟩⟩
def cBool (K : Frag) : List V → Hp → VK → Prop := fun xs H Q => match xs with
  | [.int i] => Q (.bl (decide (i ≠ 0))) H
  | [.bl b] => Q (.bl b) H
  | [.ref p] => Rd K H p fun ys => Q (.bl (decide (ys ≠ []))) H
  | _ => False
theorem c_bool {X : Cx} : CallR X (.type "bool") (cBool X.K) := by
  intro pins s σ H xs us Q I r h
  have hl := line63
  match xs, h with
  | [.int i], h =>
    obtain ⟨u, rfl, ⟨t, rfl⟩⟩ := r.one
    refine bool_tr (PySem.P.truthy_int ⟨.bl (i != 0), H, I, rfl, ?_⟩)
    have e : (i != 0) = decide (i ≠ 0) := by by_cases h : i = 0 <;> simp [h]
    rw [e]; exact h
  | [.bl b], h =>
    obtain ⟨u, rfl, rfl⟩ := r.one
    exact bool_tr (wpAny_truthy_bool ⟨.bl b, H, I, rfl, h⟩)
  | [.ref p], ⟨⟨ys, hx, h⟩⟩ =>
    obtain ⟨u, rfl, rfl⟩ := r.one
    have e : (!ys.isEmpty) = decide (ys ≠ []) := by cases ys <;> simp
    rcases hx with hx | hx
    · obtain ⟨its, rv, pl, hz⟩ := I.list hx
      have hlen := rv.length
      exact bool_tr (wpAny_truthy_list pl.isList (by simp only [List.size_toArray]; omega) ⟨.bl (!ys.isEmpty), H, I.tok _, by rw [isEmpty_of rv]; rfl, by rw [e]; exact h⟩)
    · obtain ⟨its, rv, pl, hz⟩ := I.tuple hx
      have hlen := rv.length
      exact bool_tr (truthy_tuple pl (by simp only [List.size_toArray]; omega) ⟨.bl (!ys.isEmpty), H, I.tok _, by rw [isEmpty_of rv]; rfl, by rw [e]; exact h⟩)
section
variable {X : Cx} {k : Nat} {g : Addr} {sp : Sp} {E : XK} {c m : Str} {ups : List Str} {tys : List String}
/-- the class's own def, called for an operator -/
theorem run_op {A : Around} {pins : List (Addr × Obj)} {σ : L2.St} {H : Hp} {s : Shared} {Q : VK} {us : List Value} {vs : List V} (F : FnR X.prog X.w X.K X.mg X.base (L2.CX X.prog X.w) k g sp) (hr : Room k A) (e0 : Env0 X.prog X.w X.K X.mg X.base A X.stack s H) (hx : ∀ σ, PassesAt (L2.CX X.prog X.w) X σ E)
    (I : Inv X pins σ H s) (r : Vals vs us) (h : sp vs H Q E) : wpAny (model X.prog X.w) A (call (.ref g) us) (EP X pins σ Q) X.xe s := by
  refine wpAny_call (codeAny_mono (F A X.stack s H us vs Q E hr e0 r h) fun r s' hq => ?_)
  cases r with
  | error e => exact hx σ pins H s e s' I hq
  | ok fl =>
    cases fl with
    | ret u => exact I.after hq
    | next => exact False.elim hq
    | brk => exact False.elim hq
    | cont => exact False.elim hq
/-- bool(x) of an instance with its own __bool__ -/
def cBoolO (K : Frag) (c : Str) (sp : Sp) (E : XK) : List V → Hp → VK → Prop := fun xs H Q => match xs with
  | [.ref p] => IsO K H c p (sp [.ref p] H (isB fun b H' => Q (.bl b) H') E)
  | _ => False
theorem c_boolO (hm : Meth X.K (He.ga X.K c) "__bool__" g) (F : FnR X.prog X.w X.K X.mg X.base (L2.CX X.prog X.w) k g sp) (hr : Room (k + 2) X.A) (hx : ∀ σ, PassesAt (L2.CX X.prog X.w) X σ E) : CallR X (.type "bool") (cBoolO X.K c sp E) := by
  intro pins s σ H xs us Q I r h
  match xs, h with
  | [.ref p], ⟨⟨dx, vs, hsl⟩, q⟩ =>
    obtain ⟨u, rfl, rfl⟩ := r.one
    obtain ⟨sl, od, _, J, _⟩ := SlX.slt_inst I hsl
    obtain ⟨m, hF⟩ := I.fr
    have hr2 : Room k X.A.in1.in1 := (show Room (k + 1) X.A.in1 from Room.in1 hr).in1
    refine bool_tr (PySem.W.truthy_K hF I.ok.mod.kin J hm.at_ hm.fn (wpAny_mono (run_op (us := [.ref p]) (vs := [.ref p]) F hr2 I.env0.in1.in1 hx I (.cons rfl .nil) q) (fun w s' z => ?_) fun _ _ x => x))
    obtain ⟨z', H', I', rz, qz⟩ := z
    obtain ⟨b, e, qz⟩ := isB_ex qz
    subst e
    cases rz
    exact ⟨.bl b, H', I', rfl, qz⟩
theorem mf_first (mf : MF X.K c ups tys) : PySem.W.selfFirst X.K (He.ga X.K c) = true := by
  obtain ⟨cd, e, _, hm⟩ := mf.cd
  unfold PySem.W.selfFirst
  rw [e, Option.any_some, hm]
  simp
/-- x op y, both instances of c, its own def; r: of other values -/
def oOwn (K : Frag) (c : Str) (sp : Sp) (E : XK) (r : R2) : R2 := fun x y H Q => match x, y with
  | .ref a, .ref b => IsO K H c a (IsO K H c b (sp [.ref a, .ref b] H Q E))
  | x, y => r x y H Q
theorem op_ownB {op : Operator} {r : R2} (mf : MF X.K c ups tys) (hm : Meth X.K (He.ga X.K c) (PySem.dunder op.info.2) g) (F : FnR X.prog X.w X.K X.mg X.base (L2.CX X.prog X.w) k g sp) (hr : Room k X.A) (hx : ∀ σ, PassesAt (L2.CX X.prog X.w) X σ E) (h0 : OpR X (binaryOp op) r) : OpR X (binaryOp op) (oOwn X.K c sp E r) := by
  intro pins s σ H x y v u Q I rx ry q
  have own : ∀ a b, x = .ref a → y = .ref b → IsO X.K H c a (IsO X.K H c b (sp [.ref a, .ref b] H Q E)) → wpAny (model X.prog X.w) X.A (binaryOp op v u) (EP X pins σ Q) X.xe s := by
    intro a b ex ey q
    subst ex ey
    cases rx
    cases ry
    obtain ⟨⟨dx, vs, hsl⟩, ⟨⟨dy, ws, hsl2⟩, q⟩⟩ := q
    obtain ⟨sl, od, _, J, _⟩ := SlX.slt_inst I hsl
    obtain ⟨sl', od', _, J', _⟩ := SlX.slt_inst I hsl2
    obtain ⟨m, hF⟩ := I.fr
    refine PySem.W.binop_K hF I.ok.mod.kin J J'.type (mf_first mf) hm.at_ hm.fn ?_
    refine wpAny_mono (run_op (us := [.ref a, .ref b]) (vs := [.ref a, .ref b]) F hr I.env0 hx I (.cons rfl (.cons rfl .nil)) q) (fun w s' z => ?_) fun _ _ x => x
    obtain ⟨z', H', I', rz, qz⟩ := z
    exact SlX.cmpback rz ⟨z', H', I', rz, qz⟩
  cases x <;> cases y <;> first | exact own _ _ rfl rfl q | exact h0 pins s σ H _ _ v u Q I rx ry q
/-- op x, an instance of c -/
def uOwn (K : Frag) (c : Str) (sp : Sp) (E : XK) : V → Hp → VK → Prop := fun x H Q => match x with
  | .ref a => IsO K H c a (sp [.ref a] H Q E)
  | _ => False
theorem u_inv (hm : Meth X.K (He.ga X.K c) "__invert__" g) (F : FnR X.prog X.w X.K X.mg X.base (L2.CX X.prog X.w) k g sp) (hr : Room k X.A) (hx : ∀ σ, PassesAt (L2.CX X.prog X.w) X σ E) : UnR X (unaryOp .Invert) (uOwn X.K c sp E) := by
  intro pins s σ H x v Q I rx q
  cases x <;> try exact q.elim
  cases rx
  obtain ⟨⟨dx, vs, hsl⟩, q⟩ := q
  obtain ⟨sl, od, _, J, _⟩ := SlX.slt_inst I hsl
  obtain ⟨m, hF⟩ := I.fr
  exact PySem.W.ksp_inv hF I.ok.mod.kin J hm.at_ hm.fn (run_op (us := [.ref _]) (vs := [.ref _]) F hr I.env0 hx I (.cons rfl .nil) q)
theorem u_negO (hm : Meth X.K (He.ga X.K c) "__neg__" g) (F : FnR X.prog X.w X.K X.mg X.base (L2.CX X.prog X.w) k g sp) (hr : Room k X.A) (hx : ∀ σ, PassesAt (L2.CX X.prog X.w) X σ E) : UnR X (unaryOp .USub) (uOwn X.K c sp E) := by
  intro pins s σ H x v Q I rx q
  cases x <;> try exact q.elim
  cases rx
  obtain ⟨⟨dx, vs, hsl⟩, q⟩ := q
  obtain ⟨sl, od, _, J, _⟩ := SlX.slt_inst I hsl
  obtain ⟨m, hF⟩ := I.fr
  exact PySem.W.ksp_neg hF I.ok.mod.kin J hm.at_ hm.fn (run_op (us := [.ref _]) (vs := [.ref _]) F hr I.env0 hx I (.cons rfl .nil) q)
/-- x == y: of instances of c by its own def; of data -/
structure EqOr (K : Frag) (c : Str) (H : Hp) (a b : Addr) (P : Prop) (k : Bool → Prop) : Prop where
  ex : (IsO K H c a (IsO K H c b P)) ∨ EqD K H (.ref a) (.ref b) k
theorem EqOr.own {K : Frag} {c : Str} {H : Hp} {a b dx dy : Addr} {P : Prop} {k : Bool → Prop} {vs ws : List (Option V)} (h : SlX.Slt H a (He.ga K c) dx vs) (h2 : SlX.Slt H b (He.ga K c) dy ws) (q : P) : EqOr K c H a b P k := ⟨.inl (.of h (.of h2 q))⟩
theorem EqOr.dat {K : Frag} {c : Str} {H : Hp} {a b : Addr} {P : Prop} {k : Bool → Prop} (h : EqD K H (.ref a) (.ref b) k) : EqOr K c H a b P k := ⟨.inr h⟩
def oEqO (K : Frag) (c : Str) (sp : Sp) (E : XK) : R2 := fun x y H Q => match x, y with
  | .ref a, .ref b => EqOr K c H a b (sp [.ref a, .ref b] H Q E) fun k => Q (.bl k) H
  | x, y => oEq K x y H Q
theorem op_eqO (hm : Meth X.K (He.ga X.K c) "__eq__" g) (F : FnR X.prog X.w X.K X.mg X.base (L2.CX X.prog X.w) k g sp) (hr : Room k X.A) (hx : ∀ σ, PassesAt (L2.CX X.prog X.w) X σ E) : OpR X (compareOp .Eq) (oEqO X.K c sp E) := by
  intro pins s σ H x y v u Q I rx ry q
  have own : ∀ a b, x = .ref a → y = .ref b → (IsO X.K H c a (IsO X.K H c b (sp [.ref a, .ref b] H Q E))) → wpAny (model X.prog X.w) X.A (compareOp .Eq v u) (EP X pins σ Q) X.xe s := by
    intro a b ex ey q1
    clear q
    subst ex ey
    cases rx
    cases ry
    obtain ⟨⟨dx, vs, hsl⟩, ⟨⟨dy, ws, hsl2⟩, q⟩⟩ := q1
    obtain ⟨sl, od, _, J, _⟩ := SlX.slt_inst I hsl
    obtain ⟨sl', od', _, J', _⟩ := SlX.slt_inst I hsl2
    obtain ⟨m, hF⟩ := I.fr
    show wpAny _ _ (richCompare .Eq (.ref a) (.ref b)) _ _ _
    refine PySem.W.cmp_K (op := .Eq) (tb := .ref (He.ga X.K c)) hr.units0 hF I.ok.mod.kin J J'.type (by unfold PySem.W.notFirst; simp) hm.at_ hm.fn ?_
    refine wpAny_mono (run_op (us := [.ref a, .ref b]) (vs := [.ref a, .ref b]) F hr I.env0 hx I (.cons rfl (.cons rfl .nil)) q) (fun w s' z => ?_) fun _ _ x => x
    obtain ⟨z', H', I', rz, qz⟩ := z
    exact SlX.cmpback rz ⟨z', H', I', rz, qz⟩
  have h0 : OpR X (compareOp .Eq) (oEq X.K) := o_eq hr.units
  cases x <;> cases y <;> first
    | (refine Or.elim (EqOr.ex q) (fun q1 => own _ _ rfl rfl q1) fun q1 => h0 pins s σ H _ _ v u Q I rx ry q1)
    | exact h0 pins s σ H _ _ v u Q I rx ry q
end
def oNo : R2 := fun _ _ _ _ => False
theorem o_no {X : Cx} {f : Value → Value → Sem Value} : OpR X f oNo := fun _ _ _ _ _ _ _ _ _ _ _ _ h => h.elim
/-! ### tuples of the module -/
def TupG (K : Frag) (x : Str) (vs : List V) : Prop := ∀ H, SqT K H (He.ga K x) vs
theorem tupG_ok {K : Frag} {x : Str} {vs : List He.Dv} (h : He.tupB K x vs = true) : TupG K x (vs.map (He.Dv.v K)) := fun H => He.tupB_ok h H
end S
namespace S
open PySem PySem.Spec PyProof.Rows L2
/-! ### enumerate over a tuple -/
set_option maxHeartbeats 4000000 in
theorem meets_enum1 {v : Value} {o : Obj} {H : Heap → Prop} (B : Begins v o H) :
    Meets (Builtin.«enumerate.__new__» ⟨[.type "enumerate", v], []⟩) (fun _ R s => H s.heap ∧
      R (.ok (.ret (.ref (s.heap.push o).objs.size))) { s with heap := (s.heap.push o).push { cls := .type "enumerate", data := .fields #[.none, .bool false, .ref s.heap.objs.size, rawInt 0, .none, .none] } }) :=
  .of_wp fun prog w A R s h => by
    obtain ⟨hp, g, d, tk, os⟩ := s; obtain ⟨h1, h⟩ := h
    have hsub := sub_enumerate
    have q1 : ∀ {A' : Around} {E : Value → Shared → Prop} {Q : Value → Shared → Prop}, Q (.ref hp.objs.size) ⟨hp.push o, g, d, tk, os⟩ → wpAny (model prog w) A' (pyIter v) Q E ⟨hp, g, d, tk, os⟩ :=
      fun q => B.iter prog w _ _ ⟨hp, g, d, tk, os⟩ _ h1 q
    wp_walk using q1
    refine wpAny_stack_any fun st => wpAny_pure ?_
    split
    · rename_i c _ _ _ _ _
      cases (c == Value.type "enumerate")
      · wp_walk using q1
        exact ⟨_, rfl, h⟩
      · wp_walk using q1
        exact ⟨_, rfl, h⟩
    · wp_walk using q1
      exact ⟨_, rfl, h⟩
theorem enum_begins1 {prog : Program} {w : World} {A : Around} {E : Value → Shared → Prop} {s : Shared} {v : Value} {o : Obj} {H : Heap → Prop} {Q : Value → Shared → Prop} (B : Begins v o H) (h1 : H s.heap)
    (h : ∀ h', IsEnum h' (s.heap.objs.size + 1) s.heap.objs.size 0 .none → h'.get? s.heap.objs.size = some o → h'.objs.size = s.heap.objs.size + 2 →
      (∀ b o, s.heap.get? b = some o → h'.get? b = some o) → Q (.ref (s.heap.objs.size + 1)) { s with heap := h' }) :
    wpAny (model prog w) A (call (.type "enumerate") [v]) Q E s := by
  refine callType_new F.called_enumerate (by decide) (F.typeCall_enumerate_1 _) (F.newCall_enumerate_1 _) (fun obj => F.args_object_init_2 obj _) F.entry_enumerate_new
    (meets_enum1 B) ⟨h1, ?_⟩
  have hz : (s.heap.push o).objs.size = s.heap.objs.size + 1 := Heap.size_push ..
  show _ ∧ _
  rw [hz]
  have he : IsEnum ((s.heap.push o).push { cls := .type "enumerate", data := .fields #[.none, .bool false, .ref s.heap.objs.size, rawInt 0, .none, .none] }) (s.heap.objs.size + 1) s.heap.objs.size 0 .none := by
    have := Heap.get?_push_size (s.heap.push o) (o := { cls := .type "enumerate", data := .fields #[.none, .bool false, .ref s.heap.objs.size, rawInt 0, .none, .none] }) rfl
    rw [hz] at this; exact this
  refine ⟨⟨_, he, rfl⟩, h _ he (Heap.get?_push_of_some _ (Heap.get?_push_size _ B.free)) (by rw [Heap.size_push, hz]) fun b o x => Heap.get?_push_of_some _ (Heap.get?_push_of_some _ x)⟩
/-- the tuple at a, each item in a new pair -/
def Iet (K : Frag) (a : Addr) : It :=
  ⟨fun i H => ∃ (xs : List V) (x : V), SqT K H a xs ∧ xs[i]? = some x, fun i H v H' => ∃ T x, v = .ref T ∧ H T = none ∧ H' = upd H T (.tup [.int (i : Nat), x]) ∧ ∀ xs, SqT K H a xs → xs[i]? = some x, fun i H => ∃ xs : List V, SqT K H a xs ∧ xs.length ≤ i⟩
theorem enum_endT {prog : Program} {w : World} {A : Around} {E : Value → Shared → Prop} {s : Shared} {e it l : Addr} {i : Nat} {c : Int} {items : Array Value} {old : Value} {Q : Option Value → Shared → Prop} (hh : A.handled = none)
    (he : IsEnum s.heap e it c old) (hit : s.heap.IsTupleIter it l i) (hl : s.heap.IsTuple l items) (hx : items[i]? = none)
    (hQ : ∀ h', Heap.ExtBut it s.heap h' → Q none { s with heap := h' }) : wpAny (model prog w) A (pyNext (.ref e)) Q E s := by
  have hT : s.TypeIs (.ref e) "enumerate" := ⟨_, he, rfl⟩
  unfold pyNext
  refine wpAny_bind (wpAny_attempt (wpAny_callSpecial?_slot (name := Str.ofString "__next__") hT F.slot_enumerate_next
    (wpAny_call_entry F.slot_enumerate_next hT F.entry_enumerate_next ?_ (F.args_enumerate_next_1 _))))
  show wpAny _ _ (field (.ref e) 2 >>= _) _ _ _
  refine wpAny_bind (wpAny_field he rfl (x := .ref it) rfl ?_)
  refine wpAny_bind (wpAny_nextOf_tuple_end hh hit hl hx fun h' x he' hx' => ?_)
  obtain ⟨o, ho, hc⟩ := hx'
  refine wpAny_bind (wpAny_isInstance (T := "StopIteration") (b := true) ⟨o, ho, hc⟩ isSubtype_stop ?_)
  exact wpAny_pure (hQ _ he')
theorem turn_enumT {P : Program} {w : World} {K : Frag} {elts : List Expr} {kk : Nat} {tpos : Pos} (a e it : Addr) :
    Turn P w K (.Tuple elts kk tpos) (Iet K a) [e, it] e (fun i h => (∃ old, IsEnum h e it ((i : Nat) : Int) old) ∧ h.IsTupleIter it a i ∧ e ≠ it) where
  mem := by simp
  obj := fun i h st b hb => by
    obtain ⟨⟨old, he⟩, ⟨o, ho, hc, hd⟩, _⟩ := st
    have e' : b = e ∨ b = it := by simpa using hb
    rcases e' with z | z
    · rw [z]; exact ⟨_, he, fun v q => nomatch q⟩
    · rw [z]; exact ⟨o, ho, fun v q => by rw [hd] at q; cases q⟩
  keep := fun i h h' st k => let ⟨⟨old, he⟩, hi, hne⟩ := st; ⟨⟨old, k e (by simp) _ he⟩, hi.at fun o q => k it (by simp) o q, hne⟩
  item := by
    intro X hP hw hK hc i pins s σ H E I hf st hg
    subst hP hw hK
    obtain ⟨⟨old, he⟩, hit, hne⟩ := st
    obtain ⟨xs, x, hq, hx⟩ := hg
    obtain ⟨its, rv, p, hz⟩ := I.tuple hq
    have ht : s.heap.IsTuple a its.toArray := p
    obtain ⟨u, hu, ru⟩ := rv.get hx
    have hel : e < s.heap.objs.size := Heap.lt_size he
    have hil : it < s.heap.objs.size := by obtain ⟨_, q, _⟩ := hit; exact Heap.lt_size q
    have hat : a ≠ it := by
      rintro rfl
      obtain ⟨o1, e1, c1, _⟩ := hit
      obtain ⟨o2, e2, c2, _⟩ := ht
      rw [e1] at e2; cases e2
      rw [c1] at c2; exact absurd c2 (by simp)
    have hae : e ≠ a := by
      rintro rfl
      obtain ⟨o2, e2, c2, _⟩ := ht
      rw [show s.heap.get? e = _ from he] at e2; cases e2
      exact absurd c2 (by simp)
    have D := Draws.tuple (prog := X.prog) (w := X.w) (A := X.A.in1) (show X.A.in1.handled = none from I.ok.hd hc) it a hat its.toArray
    have hlt : i < its.toArray.size := by
      have := rv.length
      obtain ⟨h1, _⟩ := List.getElem?_eq_some_iff.mp hx
      simp; omega
    refine wpAny_pyNext_enum_itemC D he ⟨hit, ht⟩ hlt hne (by simp; exact ⟨hne, hae⟩) fun u2 h' tk hP ho hst hT hsz hk => ?_
    have eu : u2 = u := by
      have h1 : its.toArray[i]? = some u2 := hP
      rw [List.getElem?_toArray] at h1
      rw [hu] at h1
      exact (Option.some.inj h1).symm
    subst eu
    refine ⟨_, rfl, wpAny_letOwnedTupleGo_enum (s := { s with heap := h', toks := tk + 1 }) ho fun h'' he' sb => ?_⟩
    have hT2 : h''.get? s.heap.objs.size = some { cls := .type "tuple", data := .seq #[.int i tk, u2] } := (sb.2 _ (Nat.ne_of_gt hel)).trans hT
    have new : ObjOk X.prog X.w (upd H s.heap.objs.size (.tup [.int (i : Nat), x])) h'' s.heap.objs.size (.tup [.int (i : Nat), x]) :=
      ⟨by show 2 ≤ sizeLine; decide, [.int i tk, u2], .cons ⟨_, rfl⟩ (.cons ru .nil), ⟨_, hT2, rfl, _, rfl⟩⟩
    have I1 : Inv X pins σ (upd H s.heap.objs.size (.tup [.int (i : Nat), x])) { s with heap := h'', toks := tk + 1 } :=
      I.turnedNew (ch := [e, it]) (fun b ob hb q => (sb.2 b (fun z => hb (by simp [z]))).trans (hk b ob (fun z => hb (by simp [z])) (fun z => hb (by simp [z])) q)) hf (Nat.le_refl _) new
    refine ⟨.ref s.heap.objs.size, _, I1, rfl, ⟨_, x, rfl, I.hok.fresh (Nat.le_refl _), rfl, fun ys hy => by rw [I.tuple_inj hy hq]; exact hx⟩, ⟨⟨u2, ?_⟩, hst.1.at fun o q => (sb.2 it (Ne.symm hne)).trans q, hne⟩, fun b hb => ?_⟩
    · have e1 : ((i + 1 : Nat) : Int) = (i : Int) + 1 := by omega
      rw [e1]; exact he'
    · have hb' : b < s.heap.objs.size := by
        have e' : b = e ∨ b = it := by simpa using hb
        rcases e' with z | z
        · rw [z]; exact hel
        · rw [z]; exact hil
      rw [upd_ne (Nat.ne_of_lt hb')]
      exact (hf b hb).1
  done := by
    intro X hP hw hK hc i pins s σ H E I hf st hg
    subst hP hw hK
    obtain ⟨⟨old, he⟩, hit, hne⟩ := st
    obtain ⟨xs, hq, hx⟩ := hg
    obtain ⟨its, rv, p, hz⟩ := I.tuple hq
    have ht : s.heap.IsTuple a its.toArray := p
    obtain ⟨f0, f1, f2, f3, f4, f5⟩ := hf it (by simp)
    have hl := rv.length
    exact enum_endT (I.ok.hd hc) he hit ht (by simp; omega) fun h' eb => ⟨rfl, I.turned (t' := s.toks) (fun b o hb q => eb b o hb q) f0 f1 f3 f4 f5⟩
  self := fun A i s Q E st h => let ⟨⟨_, he⟩, _⟩ := st; wpAny_pyIter_enum he h
/-- over the tuple at p -/
structure EnW (K : Frag) (H : Hp) (p : Addr) (R : It → Hp → Prop) : Prop where
  ex : ∃ xs, SqT K H p xs
  go : R (Iet K p) H
def iEn (K : Frag) (ta : TE) : TI := fun σ H R => ta σ H fun x H1 => match x with
  | .ref p => EnW K H1 p R
  | _ => False
theorem pi_en {X : Cx} {e : Expr} {ta : TE} {p pos tpos : Pos} {elts : List Expr} {kk : Nat} (hm : X.mg "enumerate" = none) (ha : PE X e ta) (hg : Gl X "enumerate" := by rfl) (hs : starEach [e] X.env = [(false, eval e X.env)] := by rfl) :
    PI X (.Tuple elts kk tpos) (.Call (.Name "enumerate" p) [e] [] pos) (iEn X.K ta) := by
  refine ⟨fun pins s σ H R I h => ?_⟩
  have hA : PA X [e] (tCons ta tNil) := pa_cons ha pa_nil hs
  refine Call_ (ld_blt I hg hm boot_enumerate (PyProof.Rows.callWith_type1 (thn (hA.run pos pins s σ H (fun vs H1 => ∃ a xs, vs = [V.ref a] ∧ SqT X.K H1 a xs ∧ R (Iet X.K a) H1) I ?hq) fun us s1 ⟨vs, H1, I1, r1, q1⟩ => ?_) hs rfl))
  case hq =>
    show ta σ H fun x H1 => _
    have key : ∀ (x : V) (H1 : Hp), (match x with | .ref p => EnW X.K H1 p R | _ => False) → (tNil σ H1 fun xs H2 => ∃ a ys, x :: xs = [V.ref a] ∧ SqT X.K H2 a ys ∧ R (Iet X.K a) H2) := by
      intro x H1 q
      cases x <;> try exact q.elim
      obtain ⟨⟨xs, hx⟩, q⟩ := q
      exact ⟨_, xs, rfl, hx, q⟩
    have e : (fun (x : V) (H1 : Hp) => (match x with | .ref p => EnW X.K H1 p R | _ => False)) = fun x H1 => (tNil σ H1 fun xs H2 => ∃ a ys, x :: xs = [V.ref a] ∧ SqT X.K H2 a ys ∧ R (Iet X.K a) H2) := by
      funext x H1
      refine propext ⟨key x H1, fun ⟨a, ys, e, hy, q⟩ => ?_⟩
      have e2 : x = .ref a := (List.cons.inj e).1
      subst e2
      exact ⟨⟨ys, hy⟩, q⟩
    rw [← e]
    exact h
  obtain ⟨a, xs, ex, hq, q⟩ := q1
  subst ex
  cases r1 with
  | cons r rr =>
    cases rr
    cases r
    obtain ⟨its, rv, p', hz⟩ := I1.tuple hq
    refine enum_begins1 (begins_tuple a its.toArray) (show s1.heap.IsTuple a its.toArray from p') fun h' he hit hsz hk => wpAny_pyIter_enum he ?_
    have I2 : Inv X pins σ H1 { s1 with heap := h' } := I1.kept (t' := s1.toks) hk
    refine ⟨s1.heap.objs.size + 1, [s1.heap.objs.size + 1, s1.heap.objs.size], _, _, H1, rfl, I2, turn_enumT a (s1.heap.objs.size + 1) s1.heap.objs.size, ⟨⟨.none, he⟩, ⟨_, hit, rfl, rfl⟩, Nat.succ_ne_self _⟩, fun b hb => ?_, q⟩
    have e' : b = s1.heap.objs.size + 1 ∨ b = s1.heap.objs.size := by simpa using hb
    have hle : s1.heap.objs.size ≤ b := by
      rcases e' with z | z
      · rw [z]; exact Nat.le_add_right _ _
      · rw [z]; exact Nat.le_refl _
    exact I1.fpOk hle (I1.hok.fresh hle)
/-- a loop over them: each pair is new -/
theorem for_en {K : Frag} {p : Addr} {xs : List V} {g : TG} {tb : TS} {D : Ends} {σ : L2.St} {H : Hp} (Pv : Nat → L2.St → Hp → Prop) (hx : SqT K H p xs) (h0 : Pv 0 σ H) (hl : ∀ i σ H', i ≤ xs.length → Pv i σ H' → SqT K H' p xs)
    (hs : ∀ (i : Nat) x σ H, xs[i]? = some x → Pv i σ H → ∀ T, H T = none → g (.ref T) σ (upd H T (.tup [.int (i : Int), x])) fun σ2 H2 => tb { D with nx := Pv (i + 1), ct := Pv (i + 1), bk := D.nx } σ2 H2) (hd : ∀ σ H, Pv xs.length σ H → D.nx σ H) :
    EnW K H p (LoopR D g tb σ) := by
  refine ⟨⟨xs, hx⟩, fun i m σ H => i ≤ xs.length ∧ m = xs.length - i ∧ Pv i σ H, ⟨_, Nat.zero_le _, rfl, h0⟩, ?_⟩
  rintro i m σ H ⟨hi, rfl, hp⟩
  have hq := hl i σ H hi hp
  by_cases hlt : i < xs.length
  · have hxi : xs[i]? = some xs[i] := List.getElem?_eq_getElem hlt
    refine .inr ⟨⟨xs, _, hq, hxi⟩, Pv (i + 1), fun σ' H' q => ⟨_, by omega, by omega, rfl, q⟩, ?_⟩
    rintro v H' ⟨T, y, rfl, hT, rfl, hy⟩
    have e := hy xs hq
    exact hs i y σ H e hp T hT
  · have e : i = xs.length := by omega
    subst e
    exact .inl ⟨⟨xs, hq, Nat.le_refl _⟩, hd _ _ hp⟩
/-- x in a list or tuple of scalars -/
def oIn (K : Frag) : R2 := fun x y H Q => match y with
  | .ref p => Rd K H p fun xs => Need (flatV x = true ∧ xs.all flatV = true) (Q (.bl (inV x xs)) H)
  | _ => False
def oNin (K : Frag) : R2 := fun x y H Q => match y with
  | .ref p => Rd K H p fun xs => Need (flatV x = true ∧ xs.all flatV = true) (Q (.bl (!inV x xs)) H)
  | _ => False
theorem o_in {X : Cx} : OpR X (compareOp .In) (oIn X.K) := OpR.of op_in_seq fun x y H Q q => by
  cases y <;> try exact q.elim
  obtain ⟨⟨xs, hx, ⟨⟨f1, f2⟩, q⟩⟩⟩ := q
  exact ⟨_, xs, rfl, hx, f1, f2, q⟩
theorem o_nin {X : Cx} : OpR X (compareOp .NotIn) (oNin X.K) := OpR.of op_notIn_seq fun x y H Q q => by
  cases y <;> try exact q.elim
  obtain ⟨⟨xs, hx, ⟨⟨f1, f2⟩, q⟩⟩⟩ := q
  exact ⟨_, xs, rfl, hx, f1, f2, q⟩
theorem inV_int (i : Int) (ns : List Int) : inV (.int i) (ns.map V.int) = decide (i ∈ ns) := by
  induction ns with
  | nil => rfl
  | cons x r ih =>
    show (eqV (.int x) (.int i) || inV (.int i) (r.map V.int)) = _
    rw [ih]
    have e : eqV (.int x) (.int i) = decide (i = x) := by
      show (x == i) = _
      by_cases h : i = x
      · subst h; simp
      · rw [decide_eq_false h, beq_eq_false_iff_ne]; exact fun z => h z.symm
    rw [e]
    by_cases h : i = x <;> by_cases h2 : i ∈ r <;> simp [h, h2]
theorem flat_ints (ns : List Int) : (ns.map V.int).all flatV = true := by
  induction ns with
  | nil => rfl
  | cons x r ih => rw [List.map_cons, List.all_cons, ih]; rfl
/-- sorted(a list of numbers) -/
structure Srt (K : Frag) (H : Hp) (p : Addr) (Q : V → Hp → Prop) : Prop where
  ex : ∃ ns : List Int, SqL K H p (ns.map V.int) ∧ ∀ (ns' : List Int) (q : Addr), ns'.Perm ns → ns'.Pairwise (· ≤ ·) → H q = none → Q (.ref q) (upd H q (.lst (ns'.map V.int)))
def cSorted (K : Frag) : List V → Hp → VK → Prop := fun xs H Q => match xs with
  | [.ref p] => Srt K H p Q
  | _ => False
theorem c_sorted {X : Cx} : CallR X (.builtin "sorted") (cSorted X.K) := CallR.of cr_sortedI fun xs H Q q => by
  match xs, q with
  | [.ref p], ⟨⟨ns, h1, h2⟩⟩ => exact ⟨p, ns, rfl, h1, h2⟩
/-- code that is never reached: its reading asks for the impossible -/
def dNo : TS := fun _ _ _ => False
theorem ps_no {X : Cx} {e : Stmt} : PS X e dNo := ⟨fun _ _ _ _ _ _ h => h.elim⟩
end S
namespace S
open PySem PySem.Spec PyProof.Rows L2
/-! ### number * number, list * number -/
def oMulA : R2 := fun x y H Q => match x, y with
  | .int i, .int j => Need (CMul i j) (Q (.int (i * j)) H)
  | .ref l, .int k => Ls H l fun xs => Need (-(2 ^ 63) ≤ k ∧ k < 2 ^ 63 ∧ xs.length * k.toNat ≤ sizeLine) (NewL H (List.replicate k.toNat xs).flatten Q)
  | _, _ => False
theorem o_mulA {X : Cx} : OpR X (binaryOp .Mult) oMulA := OpR.of (op_mul.or op_rep) fun x y H Q q => by
  cases x <;> cases y <;> try exact q.elim
  · exact .inl ⟨_, _, rfl, rfl, q.c, q.q⟩
  · obtain ⟨⟨xs, h, ⟨⟨h1, h2, h3⟩, ⟨q⟩⟩⟩⟩ := q
    exact .inr ⟨_, _, xs, rfl, rfl, h, h1, h2, h3, q⟩
/-! ### staticmethods -/
structure StF (K : Frag) (c m : Str) : Prop where
  rd : PySem.W.readsIn K (He.ga K c) (.type "type") = true
  ga : PySem.W.specialIn K (.ref (He.ga K c)) "__getattribute__" = some (some (.builtin "type.__getattribute__"))
  at_ : PySem.W.findCls K (.ref (He.ga K c)) (.type "type") m = some (.get (.builtin "staticmethod.__get__") (.ref (He.ma K (He.ga K c) m)) .none (.ref (He.ga K c)))
  rc : ∃ rest, PySem.W.recIn K (He.ma K (He.ga K c) m) "staticmethod" = some (.ref (uA K c m) :: rest)
  kp : PySem.W.keepIn K (.ref (uA K c m)) = true
def statB (c m : Str) (K : Frag) : Bool := PySem.W.readsIn K (He.ga K c) (.type "type") && (He.eqO (PySem.W.specialIn K (.ref (He.ga K c)) "__getattribute__") (some (some (.builtin "type.__getattribute__"))) &&
  ((match PySem.W.findCls K (.ref (He.ga K c)) (.type "type") m with
    | some (.get (.builtin g) (.ref p) .none (.ref D)) => decide (g = "staticmethod.__get__") && (decide (p = He.ma K (He.ga K c) m) && decide (D = He.ga K c))
    | _ => false) && ((match PySem.W.recIn K (He.ma K (He.ga K c) m) "staticmethod" with
    | some (.ref g :: _) => decide (g = uA K c m)
    | _ => false) && PySem.W.keepIn K (.ref (uA K c m)))))
theorem statB_ok {K : Frag} {c m : Str} (h : statB c m K = true) : StF K c m := by
  obtain ⟨h1, h⟩ := He.ba h
  obtain ⟨h2, h⟩ := He.ba h
  obtain ⟨h3, h⟩ := He.ba h
  obtain ⟨h4, h5⟩ := He.ba h
  refine ⟨h1, He.eqO_ok h2, ?_, ?_, h5⟩
  · clear h4
    split at h3
    · rename_i g p D e
      obtain ⟨k1, k⟩ := He.ba h3
      obtain ⟨k2, k3⟩ := He.ba k
      rw [e, of_decide_eq_true k1, of_decide_eq_true k2, of_decide_eq_true k3]
    · cases h3
  · clear h3
    split at h4
    · rename_i g r e
      rw [of_decide_eq_true h4] at e
      exact ⟨r, e⟩
    · cases h4
section
variable {X : Cx} {k : Nat} {sp : Sp} {E : L2.St → XK} {c m : Str} {pos apos : Pos} {o e : Expr} {es : List Expr} {t : TA}
theorem getstat_ok {pins : List (Addr × Obj)} {σ : L2.St} {H : Hp} {s : Shared} {A : Around} {E : Value → Shared → Prop} {pl : Sem Bool} {Q : Value × List Value → Shared → Prop} (I : Inv X pins σ H s) (r : StF X.K c m) (h : ∀ s', Inv X pins σ H s' → Q (.ref (uA X.K c m), []) s') :
    wpAny (model X.prog X.w) A (getMethod (.ref (He.ga X.K c)) m pl) Q E s := by
  obtain ⟨rest, hp⟩ := r.rc
  refine PySem.W.method_cls I.kIn r.ga (PySem.W.cls_bind I.kIn r.rd r.at_ ?_)
  refine wpAny_call (PySem.W.sm_get (s := { s with toks := s.toks + 1 }) I.kIn hp (PySem.W.handed_on rfl ?_))
  exact h _ (I.tok _)
/-- C.m(e, ..), m a staticmethod -/
def dStat (K : Frag) (sp : Sp) (E : L2.St → XK) (t : TA) : TE := fun σ H Q => t σ H fun vs H1 => sp vs H1 Q (E σ)
theorem pe_stat {pl : Sem Bool} (r : StF X.K c m) (F : FnR X.prog X.w X.K X.mg X.base (L2.CX X.prog X.w) k (uA X.K c m) sp) (hr : Room k X.A) (hx : ∀ σ, PassesAt (L2.CX X.prog X.w) X σ (E σ)) (he : PE X o (tC (.ref (He.ga X.K c)))) (ha : PA X (e :: es) t)
    (hst : starEach (e :: es) X.env = (false, eval e X.env) :: starEach es X.env := by rfl) (hpl : (backTo pos (starEach es X.env)).any (·.1) = false := by rfl)
    (ht : eval (.Call (.Attribute o m apos) (e :: es) [] pos) X.env = (do
      let ov ← eval o X.env
      standAt apos.atName
      let (f, first) ← holding [ov] (getMethod ov m pl)
      callWith pos f first (backTo pos (starEach (e :: es) X.env)) (backToKw pos (keywordEach [] X.env))) := by rfl) :
    PE X (.Call (.Attribute o m apos) (e :: es) [] pos) (dStat X.K sp E t) := by
  refine ⟨fun pins s σ H Q I h => ?_⟩
  refine PySem.W.methodCall_KW (pl := pl) (thn (he.run pins s σ H (fun x H1 => x = .ref (He.ga X.K c) ∧ t σ H1 fun vs H2 => sp vs H2 Q (E σ)) I ⟨rfl, h⟩) fun u s1 ⟨x, H1, I1, rx, ex, q⟩ => ?_) ht
  subst ex
  cases rx
  refine getstat_ok I1 r fun s2 I2 => ?_
  refine PySem.W.callWith_K (first := []) (h₀ := X.base) I2.ok.mod.kin r.kp (thn (ha.run pos pins s2 σ H1 _ I2 q) fun us s3 ⟨ws, H2, I3, r3, q2⟩ => ⟨I3.kIn, ?_⟩) hst hpl
  exact run_R F hr (hx σ) I3 r3 q2
end
end S
namespace S
open PySem PySem.Spec PyProof.Rows L2
/-! ### exceptions with an own __init__ over super().__init__ -/
def oexB (c : Str) (K : Frag) : Bool := (match K.lookup (He.ga K c) with
  | some ⟨.type "type", _, .cls cd, sl⟩ => (match cd.mro, sl.toList with
    | .ref C' :: bm, [_, _, _, _, some (.builtin n), _] => C' == He.ga K c && n == "ValueError.__new__" && !cd.hasDel && cd.hasDict && PySem.HandSPX.refsVE bm
    | _, _ => false)
  | _ => false) && (He.eqO (PySem.W.findIn K (.ref (He.ga K c)) "__setattr__") (some (some (.builtin "object.__setattr__"))) && (decide (PySem.W.subIn K (.ref (He.ga K c)) (.type "BaseException") = some true) &&
    (decide (PySem.W.typeIn K (.ref (He.ga K c)) = some (.type "type")) && PySem.W.keepIn K (.ref (He.ga K c)))))
theorem oexB_ok {K : Frag} {c : Str} (h : oexB c K = true) : OexC K (He.ga K c) := by
  obtain ⟨h1, h⟩ := He.ba h
  obtain ⟨h2, h⟩ := He.ba h
  obtain ⟨h3, h⟩ := He.ba h
  obtain ⟨h4, h5⟩ := He.ba h
  refine ⟨?_, He.eqO_ok h2, of_decide_eq_true h3, of_decide_eq_true h4, h5⟩
  clear h2 h3 h4 h5 h
  split at h1
  · rename_i dd cd sl ho
    split at h1
    · rename_i C' bm k0 k1 k2 k3 n k5 hm hs
      simp only [Bool.and_eq_true, beq_iff_eq, Bool.not_eq_true'] at h1
      obtain ⟨⟨⟨⟨e1, rfl⟩, hdel⟩, hd⟩, ht⟩ := h1
      obtain ⟨nm, bs, mro, ns, qn, hdc, sn, sub, ab, col, del⟩ := cd
      dsimp only at hm hdel hd
      subst hm hdel hd
      have hsl : sl = #[k0, k1, k2, k3, some (.builtin "ValueError.__new__"), k5] := by
        obtain ⟨l⟩ := sl
        simp only at hs
        rw [hs]
      subst hsl
      exact ⟨nm, qn, ns, bs, bm, sn, sub, ab, col, dd, k0, k1, k2, k3, k5, by rw [ho, e1], ht⟩
    · cases h1
  · cases h1
/-- what the written part says of such a class: fI its __init__ -/
structure XiF (P : Program) (K : Frag) (c fld nm qual : Str) (params : Arguments) (body : List Stmt) (scope : Scope) (fI : Addr) (fd : FuncData) : Prop where
  fn : ∃ oc od osl kV doc pm an cda ct cc, fd = PySem.W.ksFn nm qual params body scope .none kV doc pm an (.ref cda) ct cc ∧ K.lookup fI = some ⟨oc, od, .func fd, osl⟩ ∧ PySem.W.codeIn K (.ref cda) qual = true ∧
    (∃ cl cld csl, K.lookup cc = some ⟨cl, cld, .cell (some (.ref (He.ga K c))), csl⟩) ∧ ∃ ccl cdd vs ccs file tf, K.lookup cda = some ⟨ccl, cdd, .fields vs, ccs⟩ ∧ vs[2]? = some (.str file tf) ∧ ((P.main.file : Str) == file) = true
  sub : PySem.W.mroIn K (He.ga K c) (.ref (He.ga K c)) = some true
  sup : PySem.W.ks_superIn K (He.ga K c) (He.ga K c) "__init__" = some (some (.builtin "ValueError.__init__"))
  ve : PySem.W.subIn K (.ref (He.ga K c)) (.type "ValueError") = some true
  st : PySem.W.nsIn K cStatics "thirdparty.any" = some none
  oex : OexC K (He.ga K c)
  no : PySem.W.findIn K (.ref (He.ga K c)) fld = some none
  ini : PySem.W.findIn K (.ref (He.ga K c)) "__init__" = some (some (.ref fI))
  tI : PySem.W.typeIn K (.ref fI) = some (.type "function")
  top : (P.main.scope.names.lookup ("super" : Str)).isSome = false
/-- the promise: the field is kept -/
def spXi (K : Frag) (c fld : Str) : Sp := fun vs H Q _ => ∃ (a : Addr) (v : V), vs = [.ref a, v] ∧ H a = some (exo a (He.ga K c) none) ∧ ∀ dx, H dx = none → dx ≠ a → Q .non (upd (upd H dx (exd dx [(fld, v)])) a (exo a (He.ga K c) (some dx)))
section
variable {P : Program} {w : World} {K : Frag} {mg : Str → Option Value} {base : Heap} {CX : CXT} {c fld nm qual par msg : Str} {params : Arguments} {body : List Stmt} {scope : Scope} {fI : Addr} {fd : FuncData} {p0 p1 p2 p3 p4 p5 p6 p7 p8 p9 : Pos} {j : Nat}
theorem xi_ok {k : Nat} {pl : Env → Sem Bool} (D : XiF P K c fld nm qual params body scope fI fd) (hms : mg "super" = none)
    (hbody : body = [.Expr (.Call (.Attribute (.Call (.Name "super" p0) [] [] p1) "__init__" p2) [.Constant (.str msg) j p3] [] p4) p5, .Assign [.Attribute (.Name "self" p6) fld p7] (.Name par p8) p9])
    (hp : ∃ ar, (params.posonlyargs ++ params.args).head? = some ar ∧ ar.arg = "self") (hk : scope.kind = .function) (hco : scope.isCoroutine = false) (hgen : scope.isGenerator = false) (hcell : ∀ x ∈ scope.names, x.2 ≠ .cell)
    (hks : scope.names.lookup ("super" : Str) = some .globalImplicit) (hkc : scope.names.lookup ("__class__" : Str) = some .free) (hka : scope.names.lookup ("self" : Str) = some .local) (hkp : scope.names.lookup par = some .local) (hne : par ≠ "self") (hpd : (par == ("__debug__" : Str)) = false)
    (hsw : ∀ env, swapsWith (.Name par p8) (some (.Attribute (.Name "self" p6) fld p7)) p9.line env = pure false) (hsw2 : ∀ env, swapsWith (.Call (.Attribute (.Call (.Name "super" p0) [] [] p1) "__init__" p2) [.Constant (.str msg) j p3] [] p4) none p5.line env = pure false)
    (hev : ∀ env, eval (.Call (.Attribute (.Call (.Name "super" p0) [] [] p1) "__init__" p2) [.Constant (.str msg) j p3] [] p4) env = (do
      let ov ← attributeBase (.Call (.Name "super" p0) [] [] p1) "__init__" env (eval (.Call (.Name "super" p0) [] [] p1) env)
      standAt p2.atName
      let (f, first) ← holding [ov] (getMethod ov "__init__" (pl env))
      callWith p4 f first (backTo p4 (starEach [.Constant (.str msg) j p3] env)) [])) :
    FnOk P w K mg base CX k fI fd ["self", par] (spXi K c fld) := by
  refine ⟨fun vs H Q E h => by obtain ⟨a, v, rfl, _⟩ := h; rfl, fun A outer s H args us vs Q E hr e0 hb rv hsp => ?_⟩
  obtain ⟨a, v, rfl, ha, q⟩ := hsp
  obtain ⟨oc, od, osl, kV, doc, pm, an, cda, ct, cc, rfl, lk, hcd, ⟨cl, cld, csl, lc⟩, ccl, cdd, fvs, ccs, file, tf, lcd, hvs, hfile⟩ := D.fn
  cases rv with
  | @cons _ u0 _ ur ra rv' =>
    cases rv' with
    | @cons _ uv _ _ rr rn =>
      cases rn
      obtain rfl : u0 = Value.ref a := ra
      have KX : K.In s.heap := e0.mod.kin.keeps fun b o e => (e0.bs b o e).1
      have lim : s.heap.NoLimit := e0.mod.nolimit.keeps fun b o e => (e0.bs b o e).1
      obtain ⟨t1, ho⟩ := exo_at e0.hok ha
      obtain ⟨nmC, qC, NC, bsC, bmC, snC, subC, abC, colC, ddC, k0, k1, k2, k3, k5, hC, hbm⟩ := D.oex.cls
      obtain ⟨ar, har, har2⟩ := hp
      obtain ⟨mb, hmb, hbt⟩ := e0.mod.blt
      have haC : a ≠ He.ga K c := fun z => by
        have hb1 : base.get? (He.ga K c) = _ := e0.mod.kin _ _ hC
        have := (e0.bs _ _ hb1).2
        rw [← z, ha] at this
        cases this
      subst hbody
      have hlk1 : ([(("self" : Str), Value.ref a), (par, uv)] : List (Str × Value)).reverse.lookup ("self" : Str) = some (Value.ref a) := by
        have e : (("self" : Str) == par) = false := by rw [beq_eq_false_iff_ne]; exact fun z => hne z.symm
        simp [List.lookup, e]
      have hlk2 : ([(("self" : Str), Value.ref a), (par, uv)] : List (Str × Value)).reverse.lookup par = some uv := by simp [List.lookup]
      refine PySem.ks_codeAny_call_defAt (binds := [("self", .ref a), (par, uv)]) hr.depth (KX _ _ lk) rfl lim (PySem.W.codeRec_of KX hcd) rfl hb hcell (fun y hy => ?_) (fun h₁ hns keep => ?_) hco hgen hk
      · rcases List.mem_cons.mp hy with rfl | hy
        · exact hka
        · rw [List.mem_singleton.mp hy]; exact hkp
      have K1 : K.In h₁ := KX.keeps keep
      have g1 : h₁.Ns mainGlobals mg := e0.mod.glob.keeps fun b o e => keep b o (e0.bs b o e).1
      have b1 : h₁.Ns builtinsNs mb := hmb.keeps fun b o e => keep b o (e0.bs b o e).1
      have nL : s.heap.objs.size ≠ a := Nat.ne_of_gt (Heap.lt_size ho)
      refine PySem.ks_wpAt_execs_cons (PySem.ks_wpAt_Expr_any (hi := by unfold interactive; show (scope.kind == _ && _) = false; rw [hk]; rfl) (hs := hsw2 _) (PySem.ks_wpAt_MethodCall (he := hev _) (PySem.ks_wpAt_super_base hks hkc (by decide) rfl (K1 _ _ lk) rfl har rfl (K1 _ _ lcd) rfl hvs hfile D.top ?_)))
      rw [har2]
      refine PySem.W.ks_loadName_global hk hks (Calls.loadGlobal_builtin g1 hms b1 ((hbt "super" (by decide)).trans (by decide +kernel : bootBuiltins ("super" : Str) = some (.type "super"))) ⟨rfl, ?_⟩)
      refine wpAny_loadName_free hk hkc rfl ⟨_, K1 _ _ lc, rfl⟩ ?_
      refine wpAny_loadName_local hk hka hns hlk1 ?_
      obtain ⟨sh, sg, sd, stk, sos⟩ := s
      refine PySem.ks_wpAny_isType_cls (K1 _ _ hC) rfl ⟨rfl, ?_⟩
      refine PySem.ks_wpAny_call_super (K1 _ _ hC) rfl (keep _ _ ho) rfl (fun c z => nomatch z) (PySem.W.looks_mroIn K1 D.sub) fun h2 hso kp2 => ?_
      have K2 : K.In h2 := K1.keeps kp2
      have ho2 := kp2 _ _ (keep _ _ ho)
      have I2 : PySem.W.InstAt h2 a _ (He.ga K c) none := ⟨ho2, rfl, rfl, trivial⟩
      obtain ⟨cd, hcl, hal⟩ : ∃ cd, PySem.W.clsIn K (He.ga K c) = some cd ∧ PySem.W.alongIn K "__init__" ((cd.mro.dropWhile (· != .ref (He.ga K c))).drop 1) = some (some (.builtin "ValueError.__init__")) := by
        have hm := D.sup
        unfold PySem.W.ks_superIn at hm
        cases hc : PySem.W.clsIn K (He.ga K c) with
        | none => rw [hc] at hm; cases hm
        | some cd => rw [hc] at hm; exact ⟨cd, rfl, hm⟩
      refine PySem.W.kxs_getMethod PySem.W.kxs_ValueError hso (PySem.W.looks_opaque K2 D.st) (l₀ := cd.mro) (fun A Q E s k q => wpAny_bind ((PySem.W.looks_clsIn K2 hcl) A _ E s k (wpAny_pure q))) rfl K2 hal (I2.type.andThen (PySem.W.looks_subIn K2 D.ve)) haC (by decide) ?_
      have K3 : K.In (h2.push (PySem.W.kxs_mw "ValueError.__init__" a)) := K2.keeps fun b o e => Heap.get?_push_of_some _ e
      have hu : (h2.push (PySem.W.kxs_mw "ValueError.__init__" a)).get? h2.objs.size = some (PySem.W.kxs_mw "ValueError.__init__" a) := Heap.get?_push_at rfl rfl
      have ho3 := Heap.get?_push_of_some (PySem.W.kxs_mw "ValueError.__init__" a) ho2
      refine PySem.W.kxs_callWith (i := "ValueError.__init__") (x := a) rfl (Calls.evalArgs_plain ?_)
      show wpAny _ _ (spliced ((false, eval (.Constant (.str msg) j p3) _) :: backTo p4 (starEach [] _))) _ _ _
      refine Calls.spliced_cons (wpAny_Constant_str ?_)
      refine Calls.spliced_nil ⟨hu, ?_⟩
      refine wpAny_call (codeAny_of_tree ?_)
      show wpAny _ _ (callAny (.ref h2.objs.size) ⟨[.str msg _], []⟩) _ _ _
      simp only [callAny]
      refine wpAny_bind (wpAny_load hu ?_)
      simp only [PySem.W.kxs_mw, show (Value.type "method-wrapper" == Value.type "method" || Value.type "method-wrapper" == Value.type "builtin_function_or_method" || Value.type "method-wrapper" == Value.type "method-wrapper") = true by decide, if_true]
      refine PySem.W.KFB.if_so (by decide) ?_
      refine wpAny_bind (PySem.W.check_bound_init PySem.F.excBase_ValueError.toExcCallFacts (K3 _ _ hC) ho3 rfl ?_)
      refine wpAny_bind (wpAny_pure (wpAny_pure ?_))
      refine ⟨plainId_quiet PySem.F.excBase_ValueError.init.plain _, codeAny_builtin PySem.F.excBase_ValueError.initEntry ?_⟩
      refine PySem.W.exc_init_tree (cls := .ref (He.ga K c)) (t0 := t1) (dv := none) (c2 := .none) (c3 := .none) (b4 := .bool false) ho3 (by rw [sizeLine_eq]; show 1 ≤ 16777216; decide) fun h4 k4 ho4 _ => ?_
      have kall : ∀ b o, b ≠ a → h₁.get? b = some o → h4.get? b = some o := fun b o hb e => k4 b o hb (Heap.get?_push_of_some _ (kp2 b o e))
      have K4 : K.In h4 := fun b o e => kall b o (fun z => by
        have e1 := (e0.bs _ _ (e0.mod.kin _ _ e)).2
        rw [z, ha] at e1
        cases e1) (K1 _ _ e)
      have hns4 := hns.at (h' := h4) fun o e => kall _ o nL e
      have hcl2 : PySem.W.clsIn K (He.ga K c) = some { name := nmC, bases := bsC, mro := .ref (He.ga K c) :: bmC, ns := NC, qualname := qC, hasDict := true, slotNames := snC, subclasses := subC, abstract := abC, collection := colC, hasDel := false } := by unfold PySem.W.clsIn; rw [hC] <;> rfl
      show _root_.PySem.wpAt _ _ _ (execs [.Assign [.Attribute (.Name "self" p6) fld p7] (.Name par p8) p9] _) _ _ _
      refine PySem.ks_wpAt_execs_cons (wpAt_of_wpAny (plainObj_wpAny_Assign_Attribute (wpAny_Name (wpAny_loadName_local hk hkp hns4 hlk2 (wpAny_Name (wpAny_loadName_local hk hka hns4 hlk1 ?_) (by decide))) hpd) (hsw _)))
      refine PySem.W.set_plain K4 (od := none) ⟨ho4, rfl, rfl, trivial⟩ D.oex.sa ?_
      refine PySem.HandSPX.exc_osa K4 ho4 hcl2 (show PySem.HandSPX.refsVE (.ref (He.ga K c) :: bmC) = true from hbm) rfl D.no (fun h' tk' dx kk dn dne hx hn => ?_)
      have kfin : ∀ b o, b ≠ a → sh.get? b = some o → h'.get? b = some o := fun b o hb e => kk b o hb (kall b o hb (keep b o e))
      have dn0 : sh.objs.size ≤ dx := by
        obtain ⟨o, _, _, e, _⟩ := hns4
        exact Nat.le_trans (Nat.le_of_lt (Heap.lt_size e)) dn
      have hnd : H dx = none := e0.hok.fresh dn0
      have nd : ∀ {b : Addr} {o : Obj}, sh.get? b = some o → b ≠ dx := fun {b o} q => Nat.ne_of_lt (Nat.lt_of_lt_of_le (Heap.lt_size q) dn0)
      have na : ∀ {b : Addr}, H b = none → b ≠ a := fun {b} n z => by
        rw [z, ha] at n
        cases n
      show _root_.PySem.wpAt _ _ _ (execs [] _) _ _ _
      refine wpAt_of_wpAny (wpAny_execs_nil ?_)
      refine ⟨.non, upd (upd H dx (exd dx [(fld, v)])) a (exo a (He.ga K c) (some dx)), rfl, e0.bare, ⟨fun b o q n _ _ => kfin b o (na n) q, fun b o q n _ _ => ⟨o.slots, kfin b o (na n) q⟩, fun b o q n _ => by rw [upd_ne (na n), upd_ne (nd q)]; exact n, fun b o q _ => ?_, fun b xs q => by rw [upd_ne (at_ne ha q exo_tup), upd_ne (ne_of_none q hnd)]; exact q, fun b o v q => by rw [upd_ne (at_ne ha q exo_frz), upd_ne (ne_of_none q hnd)]; exact q, fun b ps q => ⟨#[], by rw [upd_ne (at_ne ha q exo_tbl), upd_ne (ne_of_none q hnd), q]; simp⟩⟩, fun b o q => ?_, rfl, q dx hnd dne⟩
      · by_cases hb : b = a
        · exact ⟨_, by rw [hb]; exact hx⟩
        · exact ⟨o, kfin b o hb q⟩
      · by_cases hb : b = a
        · subst hb
          rw [upd_same] at q
          cases q
          exact exo_ok hx
        · rw [upd_ne hb] at q
          by_cases hd : b = dx
          · subst hd
            rw [upd_same] at q
            cases q
            exact exd_ok hn (relO_put (fs := []) rr fun g => True.intro)
          · rw [upd_ne hd] at q
            exact (e0.hok b o q).stay (fun c v hc z => kfin c v (by
                rcases hc with hc | hc
                · rw [hc]
                  exact hb
                · exact at_ne ha hc exo_own) z)
              (fun c hc => by rw [upd_ne (at_ne ha hc exo_own), upd_ne (ne_of_none hc hnd)]; exact hc) (fun c xs hc => by rw [upd_ne (at_ne ha hc exo_tup), upd_ne (ne_of_none hc hnd)]; exact hc)
end
/-! ### raise C(e) -/
/-- a new exception's dict -/
structure NewX (H : Hp) (fs : List (Str × V)) (k : Addr → Hp → Prop) : Prop where
  go : ∀ d, H d = none → k d (upd H d (.xd fs))
def dRsI (K : Frag) (c fld : Str) (W : WX) (i : Nat) : TS := fun _ σ H => onSome (nth σ i) fun v => NewX H [(fld, v)] fun d H2 => W (.ref (He.ga K c)) (some d) σ H2
theorem xi_heap {H : Hp} {a dx C : Addr} {fld : Str} {v : V} (ha : H a = none) (hd : H dx = none) (hne : dx ≠ a) : upd (del (upd (upd (upd H a (exo a C none)) dx (exd dx [(fld, v)])) a (exo a C (some dx))) a) dx (.xd [(fld, v)]) = upd H dx (.xd [(fld, v)]) := by
  funext b
  by_cases h1 : b = dx
  · rw [h1, upd_same, upd_same]
  · rw [upd_ne h1, upd_ne h1]
    by_cases h2 : b = a
    · rw [h2, del_same, ha]
    · rw [del_ne h2, upd_ne h2, upd_ne h1, upd_ne h2]
theorem ps_rsI {X : Cx} {c fld nm qual par msg : Str} {params : Arguments} {body : List Stmt} {scope : Scope} {fI : Addr} {p0 p1 p2 p3 p4 p5 p6 p7 p8 p9 pp ppos ppos' : Pos} {j : Nat} {pl : Env → Sem Bool} {W : WX} {e : Expr} {ix : Nat} (tk : Takes X W)
    (D : ∃ fd, XiF X.prog X.K c fld nm qual params body scope fI fd) (hms : X.mg "super" = none) (gC : X.mg c = some (.ref (He.ga X.K c))) (hr : Room 1 X.A) (he : PE X e (dVar ix))
    (hbind : ∀ (kV doc pm : Value) (an : Option Addr) (cdv ct : Value) (cc : Addr) (us : List Value), us.length = 2 → bindArgs (PySem.W.ksFn nm qual params body scope .none kV doc pm an cdv ct cc) ⟨us, []⟩ = pure ([("self" : Str), par].zip us))
    (hbody : body = [.Expr (.Call (.Attribute (.Call (.Name "super" p0) [] [] p1) "__init__" p2) [.Constant (.str msg) j p3] [] p4) p5, .Assign [.Attribute (.Name "self" p6) fld p7] (.Name par p8) p9])
    (hp : ∃ ar, (params.posonlyargs ++ params.args).head? = some ar ∧ ar.arg = "self") (hk : scope.kind = .function) (hco : scope.isCoroutine = false) (hgen : scope.isGenerator = false) (hcell : ∀ x ∈ scope.names, x.2 ≠ .cell)
    (hks : scope.names.lookup ("super" : Str) = some .globalImplicit) (hkc : scope.names.lookup ("__class__" : Str) = some .free) (hka : scope.names.lookup ("self" : Str) = some .local) (hkp : scope.names.lookup par = some .local) (hne : par ≠ "self") (hpd : (par == ("__debug__" : Str)) = false)
    (hsw : ∀ env, swapsWith (.Name par p8) (some (.Attribute (.Name "self" p6) fld p7)) p9.line env = pure false) (hsw2 : ∀ env, swapsWith (.Call (.Attribute (.Call (.Name "super" p0) [] [] p1) "__init__" p2) [.Constant (.str msg) j p3] [] p4) none p5.line env = pure false)
    (hev : ∀ env, eval (.Call (.Attribute (.Call (.Name "super" p0) [] [] p1) "__init__" p2) [.Constant (.str msg) j p3] [] p4) env = (do
      let ov ← attributeBase (.Call (.Name "super" p0) [] [] p1) "__init__" env (eval (.Call (.Name "super" p0) [] [] p1) env)
      standAt p2.atName
      let (f, first) ← holding [ov] (getMethod ov "__init__" (pl env))
      callWith p4 f first (backTo p4 (starEach [.Constant (.str msg) j p3] env)) []))
    (hc : X.calm = true := by rfl) (hg : Gl X c := by rfl) (hdb : (c == ("__debug__" : Str)) = false := by decide) (hst : starEach [e] X.env = (false, eval e X.env) :: starEach [] X.env := by rfl) (hpl : (backTo ppos (starEach [] X.env)).any (·.1) = false := by rfl) :
    PS X (.Raise (some (.Call (.Name c pp) [e] [] ppos)) none ppos') (dRsI X.K c fld W ix) := by
  obtain ⟨fd, D⟩ := D
  have F1 : FnOk X.prog X.w X.K X.mg X.base (L2.CX X.prog X.w) 0 fI fd ["self", par] (spXi X.K c fld) := xi_ok D hms hbody hp hk hco hgen hcell hks hkc hka hkp hne hpd hsw hsw2 hev
  have hb : Binds X.K fd ["self", par] [] := by
    obtain ⟨oc, od, osl, kV, doc, pm, an, cda, ct, cc, rfl, _⟩ := D.fn
    exact Binds.all fun us hl => hbind _ _ _ _ _ _ _ us hl
  have pm := pmk_oex (X := X) (p := pp) (pos := ppos) D.oex D.ini D.tI F1 hr hb .nil (fun _ _ _ _ _ _ _ h => by
    obtain ⟨_, _, _, _, _, _, _, _, _, _, _, _, z⟩ := h
    exact z.elim) hg gC (pa_cons he pa_nil hst) hdb hst hpl
  refine PS.of (ps_raise hc tk pm) fun DD σ H q => ?_
  unfold dRsI at q
  show onSome (nth σ ix) _
  cases hx : nth σ ix with
  | none => rw [hx] at q; exact q.elim
  | some v =>
    rw [hx] at q
    have q : NewX H [(fld, v)] fun d H2 => W (.ref (He.ga X.K c)) (some d) σ H2 := q
    refine ⟨show 1 ≤ 1000 by decide, fun a ha => ⟨a, v, rfl, upd_same, fun dx hdx hne => ⟨rfl, dx, [(fld, v)], upd_same, by rw [upd_ne hne, upd_same], ?_, ?_⟩⟩⟩
    · rw [upd_ne hne] at hdx; exact hdx
    · rw [upd_ne hne] at hdx
      rw [xi_heap ha hdx hne]
      exact q.go dx hdx
/-! ### e.f, e the exception of the suite -/
structure XfF (K : Frag) (c fld : Str) : Prop where
  xf : XfC K (He.ga K c)
  no : PySem.W.findIn K (.ref (He.ga K c)) fld = some none
def xffB (c fld : Str) (K : Frag) : Bool := xfB K (He.ga K c) && decide (PySem.W.findIn K (.ref (He.ga K c)) fld = some none)
theorem xffB_ok {K : Frag} {c fld : Str} (h : xffB c fld K = true) : XfF K c fld := let ⟨a, b⟩ := He.ba h; ⟨xfB_ok a, of_decide_eq_true b⟩
structure XAt (K : Frag) (H : Hp) (a : Addr) (cls : Value) (d : Option Addr) (c fld : Str) (x : V) (k : V → Prop) : Prop where
  ex : ∃ (dd : Addr) (fs : List (Str × V)) (v : V), x = .ref a ∧ cls = .ref (He.ga K c) ∧ d = some dd ∧ H dd = some (.xd fs) ∧ fs.lookup fld = some v ∧ k v
def dXf (K : Frag) (a : Addr) (cls : Value) (d : Option Addr) (c fld : Str) (te : TE) : TE := fun σ H Q => te σ H fun x H1 => XAt K H1 a cls d c fld x fun v => Q v H1
theorem pe_xfX {X : Cx} {a : Addr} {oe : Obj} {cls : Value} {d : Option Addr} {pn : List (Addr × Obj)} {e : Expr} {te : TE} {pos : Pos} {c fld : Str} (T : XfF X.K c fld) (hz : Zc cls d oe) (hf : ∃ vs, oe.data = .fields vs) (he : PE (X.suite a ((a, oe) :: pn)) e te)
    (hb : attributeBase e fld X.env (eval e X.env) = eval e X.env := by rfl) : PE (X.suite a ((a, oe) :: pn)) (.Attribute e fld pos) (dXf X.K a cls d c fld te) := by
  refine PE.of (pe_xf T.xf T.no hz hf he hb) fun σ H Q q => ?_
  have e : (fun (x : V) (H1 : Hp) => XAt X.K H1 a cls d c fld x fun v => Q v H1) = fun x H1 => x = .ref a ∧ cls = .ref (He.ga X.K c) ∧ ∃ (dd : Addr) (fs : List (Str × V)) (v : V), d = some dd ∧ H1 dd = some (.xd fs) ∧ fs.lookup fld = some v ∧ Q v H1 := by
    funext x H1
    refine propext ⟨fun ⟨dd, fs, v, h1, h2, h3, h4, h5, h6⟩ => ⟨h1, h2, dd, fs, v, h3, h4, h5, h6⟩, fun ⟨h1, h2, dd, fs, v, h3, h4, h5, h6⟩ => ⟨dd, fs, v, h1, h2, h3, h4, h5, h6⟩⟩
  show te σ H _
  rw [← e]
  exact q
/-! ### such a class in the head -/
def cellTo (K : Frag) (cc C : Addr) : Bool := match K.lookup cc with
  | some ⟨_, _, .cell (some (.ref D)), _⟩ => decide (D = C)
  | _ => false
theorem cellTo_ok {K : Frag} {cc C : Addr} (h : cellTo K cc C = true) : ∃ cl cld csl, K.lookup cc = some ⟨cl, cld, .cell (some (.ref C)), csl⟩ := by
  unfold cellTo at h
  split at h
  · rename_i cl cld D csl lc
    have e := of_decide_eq_true h
    subst e
    exact ⟨_, _, _, lc⟩
  · cases h
def codeFile (P : Program) (K : Frag) (cda : Addr) : Bool := match K.lookup cda with
  | some ⟨_, _, .fields vs, _⟩ => (match (vs[2]? : Option Value) with
    | some (.str file _) => ((P.main.file : Str) == file)
    | _ => false)
  | _ => false
theorem codeFile_ok {P : Program} {K : Frag} {cda : Addr} (h : codeFile P K cda = true) : ∃ ccl cdd vs ccs file tf, K.lookup cda = some ⟨ccl, cdd, .fields vs, ccs⟩ ∧ vs[2]? = some (.str file tf) ∧ ((P.main.file : Str) == file) = true := by
  unfold codeFile at h
  split at h
  · rename_i ccl cdd vs ccs lcd
    split at h
    · rename_i file tf hvs
      exact ⟨ccl, cdd, vs, ccs, file, tf, lcd, hvs, h⟩
    · cases h
  · cases h
def cloB (P : Program) (K : Frag) (C : Addr) (code : Value) (clo : List (Str × Addr)) : Bool := match code, clo with
  | .ref cda, [(_, cc)] => cellTo K cc C && codeFile P K cda
  | _, _ => false
theorem cloB_ok {P : Program} {K : Frag} {C : Addr} {code : Value} {clo : List (Str × Addr)} (h : cloB P K C code clo = true) : ∃ cda nm cc, code = .ref cda ∧ clo = [(nm, cc)] ∧ cellTo K cc C = true ∧ codeFile P K cda = true := by
  unfold cloB at h
  split at h
  · obtain ⟨h1, h2⟩ := He.ba h
    exact ⟨_, _, _, rfl, rfl, h1, h2⟩
  · cases h
def fnB (P : Program) (K : Frag) (C fI : Addr) : Bool := match K.lookup fI with
  | some ⟨_, _, .func fd, _⟩ => PySem.W.codeIn K fd.code fd.qualname && (He.dflB K fd.defaults [] && cloB P K C fd.code fd.closure)
  | _ => false
def xiB (P : Program) (c fld : Str) (K : Frag) : Bool := fnB P K (He.ga K c) (He.fAd K (c, some "__init__")) && (decide (PySem.W.mroIn K (He.ga K c) (.ref (He.ga K c)) = some true) && (He.eqO (PySem.W.ks_superIn K (He.ga K c) (He.ga K c) "__init__") (some (some (.builtin "ValueError.__init__"))) &&
    (decide (PySem.W.subIn K (.ref (He.ga K c)) (.type "ValueError") = some true) && (decide (PySem.W.nsIn K cStatics "thirdparty.any" = some none) && (oexB c K && (decide (PySem.W.findIn K (.ref (He.ga K c)) fld = some none) &&
    (He.eqO (PySem.W.findIn K (.ref (He.ga K c)) "__init__") (some (some (.ref (He.fAd K (c, some "__init__"))))) && (decide (PySem.W.typeIn K (.ref (He.fAd K (c, some "__init__"))) = some (.type "function")) && !(P.main.scope.names.lookup ("super" : Str)).isSome))))))))
theorem xi_of {P : Program} {K : Frag} {c fld nm qual : Str} {params : Arguments} {body : List Stmt} {scope : Scope} (e : fnX K (He.fAd K (c, some "__init__")) = some (nm, qual, params, .stmts body, scope, mainGlobals, [(("__class__" : Str), (0 : Addr))], builtinsNs)) (h : xiB P c fld K = true) :
    ∃ fd, XiF P K c fld nm qual params body scope (He.fAd K (c, some "__init__")) fd := by
  obtain ⟨h1, h⟩ := He.ba h
  obtain ⟨h2, h⟩ := He.ba h
  obtain ⟨h3, h⟩ := He.ba h
  obtain ⟨h4, h⟩ := He.ba h
  obtain ⟨h5, h⟩ := He.ba h
  obtain ⟨h6, h⟩ := He.ba h
  obtain ⟨h7, h⟩ := He.ba h
  obtain ⟨h8, h⟩ := He.ba h
  obtain ⟨h9, h10⟩ := He.ba h
  unfold fnX at e
  unfold fnB at h1
  cases lk : K.lookup (He.fAd K (c, some "__init__")) with
  | none => rw [lk] at e; cases e
  | some o =>
    rw [lk] at e h1
    obtain ⟨oc, od, dat, osl⟩ := o
    cases dat <;> try cases e
    rename_i fd
    obtain ⟨k1, k0⟩ := He.ba h1
    obtain ⟨kd, k2⟩ := He.ba k0
    obtain ⟨n1, n2, n3, n4, n5, n6, n7, n8, n9, n10, n11, n12, n13, n14, n15⟩ := fd
    simp only [Option.some.injEq, Prod.mk.injEq] at e
    obtain ⟨e1, e2, e3, e4, e5, e6, e7, e8⟩ := e
    subst e1 e2 e3 e4 e5 e6 e8
    dsimp only at k1 k2 kd
    have hdn : n8 = Value.none := by
      rcases He.dflB_ok kd with ⟨_, z⟩ | ⟨z, _⟩
      · exact z
      · exact absurd rfl z
    subst hdn
    obtain ⟨cda, nmc, cc, ec, eclo, h3', h4'⟩ := cloB_ok k2
    subst ec eclo
    have enm : nmc = "__class__" := by simpa using e7
    subst enm
    exact ⟨_, ⟨⟨oc, od, osl, _, _, _, _, cda, _, cc, rfl, lk, k1, cellTo_ok h3', codeFile_ok h4'⟩, of_decide_eq_true h2, He.eqO_ok h3, of_decide_eq_true h4, of_decide_eq_true h5, oexB_ok h6, of_decide_eq_true h7, He.eqO_ok h8, of_decide_eq_true h9, by simpa using h10⟩⟩
end S
namespace S
open PySem PySem.Spec PyProof.Rows L2
/-! ### x not in o, o with its own __contains__ -/
section
variable {X : Cx} {k : Nat} {g : Addr} {sp : Sp} {E : XK} {c : Str}
def oNinO (K : Frag) (c : Str) (sp : Sp) (E : XK) : R2 := fun x y H Q => match y with
  | .ref a => IsO K H c a (sp [.ref a, x] H (isB fun b H' => Q (.bl (!b)) H') E)
  | _ => False
theorem op_ninO (hm : Meth X.K (He.ga X.K c) "__contains__" g) (F : FnR X.prog X.w X.K X.mg X.base (L2.CX X.prog X.w) k g sp) (hr : Room k X.A) (hx : ∀ σ, PassesAt (L2.CX X.prog X.w) X σ E) : OpR X (compareOp .NotIn) (oNinO X.K c sp E) := by
  intro pins s σ H x y v u Q I rx ry q
  cases y <;> try exact q.elim
  cases ry
  obtain ⟨⟨dx, vs, hsl⟩, q⟩ := q
  obtain ⟨sl, od, _, J, _⟩ := SlX.slt_inst I hsl
  obtain ⟨m, hF⟩ := I.fr
  refine PySem.W.notIn_K hF I.ok.mod.kin J hm.at_ hm.fn ?_
  refine wpAny_mono (run_R (us := [.ref _, v]) (vs := [.ref _, x]) (E := fun _ => E) F hr (hx σ) I (.cons rfl (.cons rx .nil)) q) (fun w s' z => ?_) fun _ _ x => x
  obtain ⟨z', H', I', rz, qz⟩ := z
  obtain ⟨b, e, qz⟩ := isB_ex qz
  subst e
  cases rz
  exact wpAny_truthy_bool ⟨.bl (!b), H', I', rfl, qz⟩
end
/-! ### n.bit_length() -/
def dBits (to : TE) : TE := fun σ H Q => to σ H fun x H1 => match x with
  | .int i => Q (.int (Builtin.Int.intBits i : Nat)) H1
  | _ => False
theorem pe_bitsX {X : Cx} {o : Expr} {to : TE} {apos pos : Pos} (ho : PE X o to) (hbase : attributeBase o "bit_length" X.env (eval o X.env) = eval o X.env := by rfl) (hline : (apos.endLine == pos.line) = true := by rfl) : PE X (.Call (.Attribute o "bit_length" apos) [] [] pos) (dBits to) := by
  refine PE.of (pe_bits ho hbase hline) fun σ H Q q => ?_
  have e : (fun (x : V) (H1 : Hp) => (match x with
      | .int i => Q (.int (Builtin.Int.intBits i : Nat)) H1
      | _ => False : Prop)) = fun x H1 => ∃ i, x = .int i ∧ Q (.int (Builtin.Int.intBits i : Nat)) H1 := by
    funext x H1
    refine propext ⟨fun h => ?_, fun ⟨i, h1, h2⟩ => by subst h1; exact h2⟩
    cases x <;> try exact h.elim
    exact ⟨_, rfl, h⟩
  show to σ H _
  rw [← e]
  exact q
/-- the least width of a number -/
def widI (i : Int) : Nat := Builtin.Int.intBits (if i < 0 then -i - 1 else i) + 1
theorem bits_lt {i : Int} (h : 0 ≤ i) : i < 2 ^ Builtin.Int.intBits i := by
  unfold Builtin.Int.intBits
  by_cases h0 : i = 0
  · subst h0; decide
  · rw [if_neg (by simpa using h0)]
    have h1 : i.natAbs < 2 ^ (i.natAbs.log2 + 1) := Nat.lt_log2_self
    have h2 : ((2 : Int) ^ (i.natAbs.log2 + 1)) = ((2 ^ (i.natAbs.log2 + 1) : Nat) : Int) := by simp
    rw [h2]; omega
theorem bits_le {i : Int} (h : 0 ≤ i) (h1 : 0 < Builtin.Int.intBits i) : (2 ^ (Builtin.Int.intBits i - 1) : Int) ≤ i := by
  unfold Builtin.Int.intBits at h1 ⊢
  by_cases h0 : i = 0
  · subst h0; exact absurd h1 (by decide)
  · rw [if_neg (by simpa using h0)]
    have h3 : 2 ^ i.natAbs.log2 ≤ i.natAbs := Nat.log2_self_le (by omega)
    have h2 : ((2 : Int) ^ (i.natAbs.log2 + 1 - 1)) = ((2 ^ i.natAbs.log2 : Nat) : Int) := by simp
    rw [h2]; omega
theorem widI_pos (i : Int) : 1 ≤ widI i := by unfold widI; omega
theorem widI_fit (i : Int) : -(2 ^ (widI i - 1) : Int) ≤ i ∧ i < 2 ^ (widI i - 1) := by
  unfold widI
  rw [Nat.add_sub_cancel]
  by_cases h : i < 0
  · rw [if_pos h]
    have := bits_lt (i := -i - 1) (by omega)
    omega
  · rw [if_neg h]
    have := bits_lt (i := i) (by omega)
    omega
theorem widI_least {i : Int} (h : 1 < widI i) : i < -(2 ^ (widI i - 2) : Int) ∨ (2 ^ (widI i - 2) : Int) ≤ i := by
  unfold widI at h ⊢
  by_cases h0 : i < 0
  · rw [if_pos h0] at h ⊢
    have := bits_le (i := -i - 1) (by omega) (by omega)
    have e : Builtin.Int.intBits (-i - 1) + 1 - 2 = Builtin.Int.intBits (-i - 1) - 1 := by omega
    rw [e]; omega
  · rw [if_neg h0] at h ⊢
    have := bits_le (i := i) (by omega) (by omega)
    have e : Builtin.Int.intBits i + 1 - 2 = Builtin.Int.intBits i - 1 := by omega
    rw [e]; omega
end S
namespace S
open PySem PySem.Spec PyProof.Rows L2
/-! ### range(a, b, -1) -/
def iR3 (vs : List V) (H : Hp) (R : It → Hp → Prop) : Prop := match vs with
  | [.int i, .int j, .int c] => Need (c = -1) (Need (-(2 ^ 62) ≤ i ∧ i < 2 ^ 62 ∧ -(2 ^ 62) ≤ j ∧ j < 2 ^ 62) (R (Itc i (-1) (i - j).toNat) H))
  | _ => False
def iRngD (ta : TA) : TI := fun σ H R => ta σ H fun vs H1 => iR3 vs H1 R
theorem pi_rngD {X : Cx} {tg a b c : Expr} {ta : TA} {p pos : Pos} (hg : Gl X "range") (hm : X.mg "range" = none) (ha : PA X [a, b, c] ta)
    (hs : starEach [a, b, c] X.env = (false, eval a X.env) :: starEach [b, c] X.env := by rfl) (hpl : (backTo pos (starEach [b, c] X.env)).any (·.1) = false := by rfl) :
    PI X tg (.Call (.Name "range" p) [a, b, c] [] pos) (iRngD ta) := by
  refine ⟨fun pins s σ H R I h => ?_⟩
  refine Call_ (ld_blt I hg hm boot_range (PyProof.Rows.callWith_type1 (thn (ha.run pos pins s σ H _ I h) fun us s1 ⟨vs, H1, I1, r1, q1⟩ => ?_) hs hpl))
  match vs, q1 with
  | [.int i, .int j, .int k], ⟨e, ⟨q1, q2, q3, q4⟩, q⟩ =>
    subst e
    obtain ⟨c0, c1, c2, c3⟩ := RgC.neg q1 q2 q3 q4
    cases r1 with
    | cons r rr =>
      cases rr with
      | cons r' rr =>
        cases rr with
        | cons r'' rr =>
          cases rr
          obtain ⟨t, rfl⟩ := r
          obtain ⟨t', rfl⟩ := r'
          obtain ⟨t'', rfl⟩ := r''
          refine call_range_3 c0 ?_ (.inl (PyProof.noPylong_small c1))
          refine wpAny_pyIter_range (IsRange.new ..) c2 ?_
          have I2 : Inv X pins σ H1 { s1 with heap := s1.heap.push { cls := .type "range", data := .fields #[.int i t, .int j t', .int (-1) t''] } } := I1.kept (t' := s1.toks) fun b o e => Heap.get?_push_of_some _ e
          refine pi_one (tk := s1.toks) I2 _ (turn_rangeC _ i (-1) (i - j).toNat) ?_ q
          have e1 : i + ((0 : Nat) : Int) * (-1) = i := by simp
          have e2 : (((i - j).toNat : Nat) : Int) - ((0 : Nat) : Int) = Builtin.Range.rangeSize i j (-1) := by rw [c3]; simp
          show IsRangeIter _ _ (i + ((0 : Nat) : Int) * (-1)) ((((i - j).toNat : Nat) : Int) - ((0 : Nat) : Int)) (-1)
          rw [e1, e2]
          exact Heap.get?_push_size _ rfl
theorem for_rngD {a b : Int} {g : TG} {tb : TS} {D : Ends} {σ : L2.St} {H : Hp} (Pv : Nat → L2.St → Hp → Prop) (h0 : Pv 0 σ H)
    (hs : ∀ (i : Nat) σ H, b < a - (i : Int) → Pv i σ H → g (.int (a - i)) σ H fun σ2 H2 => tb { D with nx := Pv (i + 1), ct := Pv (i + 1), bk := D.nx } σ2 H2) (hd : ∀ σ H, Pv (a - b).toNat σ H → D.nx σ H) :
    LoopR D g tb σ (Itc a (-1) (a - b).toNat) H := by
  refine L2.for_rangeC (lo := a) Pv h0 (fun i σ H hi q => ?_) hd
  have z := hs i σ H (by omega) q
  have e : a + (i : Int) * (-1) = a - i := by omega
  rw [e]; exact z
/-! ### the head, its looks one by one -/
theorem run_split {σ β γ : Type} {o : Option σ} {f1 f2 f3 f4 : σ → Bool} {g : σ → β} {h : σ → γ} {v2 : β} {v3 : γ} (h1 : o.map f1 = some true) (h2 : o.map f2 = some true) (h3 : o.map f3 = some true) (h4 : o.map f4 = some true) (h5 : o.map g = some v2) (h6 : o.map h = some v3) :
    o.map (fun s => (f1 s && f2 s && f3 s && f4 s, g s, h s)) = some (true, v2, v3) := by
  cases o with
  | none => cases h1
  | some s =>
    have e1 : f1 s = true := Option.some.inj h1
    have e2 : f2 s = true := Option.some.inj h2
    have e3 : f3 s = true := Option.some.inj h3
    have e4 : f4 s = true := Option.some.inj h4
    have e5 : g s = v2 := Option.some.inj h5
    have e6 : h s = v3 := Option.some.inj h6
    show some (f1 s && f2 s && f3 s && f4 s, g s, h s) = _
    rw [e1, e2, e3, e4, e5, e6]; rfl
end S
namespace S
open PySem PySem.Spec PyProof.Rows L2
/-! ### i op x, x an instance with its own reflected op -/
theorem int_decl {nm : String} {f : Int → Int → Sem PySem.Fin} {i : Int} {t : Tok} {x : Addr} : GivesAt (fun s => ∃ ox : Obj, s.heap.get? x = some ox ∧ ∀ v, ox.data ≠ .prim v) (Builtin.Int.intBinary nm f false ⟨[.int i t, .ref x], []⟩) (.val Value.notImplemented) := by
  rintro prog w A R s ⟨ox, hx, hd⟩ h
  unfold Builtin.Int.intBinary
  have s1 : slotArgs nm 1 ⟨[.int i t, .ref x], []⟩ = pure (.int i t, [.ref x]) := by
    unfold slotArgs
    rfl
  rw [s1]
  refine wpAny_bind (wpAny_pure ?_)
  dsimp only
  have s2 : Builtin.Int.intOfSelf (.int i t) = pure i := by
    unfold Builtin.Int.intOfSelf asInt?
    rfl
  rw [s2]
  refine wpAny_bind (wpAny_pure ?_)
  dsimp only [List.headD_cons]
  unfold asInt?
  refine wpAny_bind (wpAny_bind (wpAny_load hx ?_))
  split
  · rename_i hq
    exact absurd hq (hd _)
  · refine wpAny_pure ?_
    exact wpAny_bind (wpAny_rule (wpAny_pure h))
section
variable {prog : Program} {w : World} {A : Around} {E : Value → Shared → Prop} {s : Shared} {K : Frag} {x C L f g : Addr} {h₀ : Heap} {m : Str → Option Value} {ox : Obj} {od : Option Obj}
theorem binR {op : Operator} {i : Int} {t : Tok} {idl : String} {B : Builtin} {Q : Value → Shared → Prop} (X : K.In s.heap) (I : PySem.W.InstAt s.heap x ox C od) (hd : ∀ v, ox.data ≠ .prim v) (hc : PySem.W.selfFirst K C = true)
    (hs : PySem.W.findIn K (.ref C) (PySem.dunder op.info.2) = some (some (.ref g))) (hr : PySem.W.findIn K (.ref C) (PySem.dunderR op.info.2) = some (some (.ref f))) (hf : PySem.W.isFn K (.ref f) = true)
    (hfi : fillsNumberSlot (.type "int") op.info.2 = pure true) (slot : Slot "int" (PySem.dunder op.info.2) idl) (entry : entryFor table idl = some B) (args : argsOk idl ⟨[.int i t, .ref x], []⟩)
    (gv : GivesAt (fun s => ∃ ox : Obj, s.heap.get? x = some ox ∧ ∀ v, ox.data ≠ .prim v) (B ⟨[.int i t, .ref x], []⟩) (.val Value.notImplemented)) (hsub : PySem.W.subIn K (.ref C) (.type "int") = some false)
    (h : wpAny (model prog w) A (call (.ref f) [.ref x, .int i t]) (PySem.W.CmpBack Q) E s) : wpAny (model prog w) A (binaryOp op (.int i t) (.ref x)) Q E s := by
  obtain ⟨cd, rest, hcd, hm⟩ := PySem.W.ksp_first hc
  rcases hi : op.info with ⟨sym, nm'⟩
  rw [hi] at hs hr hfi slot
  dsimp only at hs hr hfi slot
  have one := PySem.W.ksp_try X I hr hf h
  have L2 : PySem.W.Looks (model prog w) s.heap (typeOf (.ref x)) (.ref C) := I.type
  have L4 : PySem.W.Looks (model prog w) s.heap (fillsNumberSlot (.ref C) nm') true := PySem.W.fills_K X hcd hm hs
  have L5 : PySem.W.Looks (model prog w) s.heap (isSubtype (.ref C) (.type "int")) false := PySem.W.looks_subIn X hsub
  have hne : (Value.type "int" == Value.ref C) = false := Bool.eq_false_iff.mpr fun q => by cases beq_iff_eq.mp q
  have hpy : numberSlotInPython (.type "int") nm' = pure false := rfl
  simp only [binaryOp, hi]
  refine wpAny_holding (wpAny_bind ?_)
  unfold binaryOp1
  refine wpAny_bind (wpAny_of_eq (show typeOf (.int i t) = pure (.type "int") from rfl) (wpAny_bind (L2.here (wpAny_bind (wpAny_of_eq hfi ?_)))))
  simp only [hne, Bool.false_eq_true, if_false]
  refine wpAny_bind (L4.here ?_)
  simp only [Bool.and_self, if_true]
  refine wpAny_bind (L5.here ?_)
  simp only [Bool.false_eq_true, if_false, pure_bind, Bool.not_false, Bool.and_self, if_true, hpy]
  refine wpAny_bind (wpAny_tryMethod_declines (T := "int") rfl slot (call_givesAt slot rfl entry args gv ⟨ox, I.at_, hd⟩ ⟨rfl, ?_⟩))
  refine wpAny_bind (wpAny_mono one (fun r s' hr' => ?_) fun _ _ e => e)
  obtain ⟨v, rfl, hq⟩ := hr'
  exact wpAny_bind (wpAny_rule (wpAny_pure (wpAny_pure hq)))
end
theorem sub_int {K : Frag} {a : Addr} : PySem.W.subIn K (.type "int") (.ref a) = some false := by
  show (PySem.fastBuiltinMro "int").map (·.contains (.ref a)) = _
  obtain ⟨l, hl⟩ := Option.isSome_iff_exists.mp (show (PySem.fastBuiltinMro "int").isSome = true by decide)
  rw [hl]
  unfold PySem.fastBuiltinMro at hl
  obtain ⟨r, _, rfl⟩ := Option.map_eq_some_iff.mp hl
  rw [Option.map_some]
  congr 1
  rw [Bool.eq_false_iff]
  intro z
  rw [List.contains_iff_mem, List.mem_map] at z
  obtain ⟨_, _, e⟩ := z
  cases e
/-- what int has for an operator; that it declines an instance -/
structure IntOp (op : Operator) : Prop where
  ex : ∃ (fo ro : Option Value) (idl : String) (B : Builtin), (∀ K : Frag, PySem.W.findIn K (.type "int") (PySem.dunder op.info.2) = some fo) ∧ (∀ K : Frag, PySem.W.findIn K (.type "int") (PySem.dunderR op.info.2) = some ro) ∧
    fillsNumberSlot (.type "int") op.info.2 = pure true ∧ Slot "int" (PySem.dunder op.info.2) idl ∧ entryFor table idl = some B ∧ (∀ a b : Value, argsOk idl ⟨[a, b], []⟩) ∧
    ∀ (i : Int) (t : Tok) (x : Addr), GivesAt (fun s => ∃ ox : Obj, s.heap.get? x = some ox ∧ ∀ v, ox.data ≠ .prim v) (B ⟨[.int i t, .ref x], []⟩) (.val Value.notImplemented)
theorem int_add : IntOp .Add := ⟨some (.builtin "int.__add__"), some (.builtin "int.__radd__"), _, _, fun _ => by show PySem.fastLookup "int" "__add__" = _; kernel_rfl, fun _ => by show PySem.fastLookup "int" "__radd__" = _; kernel_rfl, PySem.F.fills_int_add, PySem.F.slot_int_add, PySem.F.entry_int_add, fun a b => PySem.F.args_int_add_2 a b, fun i t x => int_decl⟩
theorem int_sub : IntOp .Sub := ⟨some (.builtin "int.__sub__"), some (.builtin "int.__rsub__"), _, _, fun _ => by show PySem.fastLookup "int" "__sub__" = _; kernel_rfl, fun _ => by show PySem.fastLookup "int" "__rsub__" = _; kernel_rfl, PySem.F.fills_int_sub, PySem.F.slot_int_sub, PySem.F.entry_int_sub, fun a b => PySem.F.args_int_sub_2 a b, fun i t x => int_decl⟩
theorem int_mul : IntOp .Mult := ⟨some (.builtin "int.__mul__"), some (.builtin "int.__rmul__"), _, _, fun _ => by show PySem.fastLookup "int" "__mul__" = _; kernel_rfl, fun _ => by show PySem.fastLookup "int" "__rmul__" = _; kernel_rfl, PySem.F.fills_int_mul, PySem.F.slot_int_mul, PySem.F.entry_int_mul, fun a b => PySem.F.args_int_mul_2 a b, fun i t x => int_decl⟩
section
variable {X : Cx} {k kR : Nat} {g gR : Addr} {sp spR : Sp} {E : XK} {c : Str} {ups : List Str} {tys : List String}
/-- x op y: an instance of c ahead (an instance or an int behind), or an int ahead of an instance (its reflected op); r: of other values -/
def oOwnI (K : Frag) (c : Str) (sp spR : Sp) (E : XK) (r : R2) : R2 := fun x y H Q => match x, y with
  | .ref a, .ref b => IsO K H c a (IsO K H c b (sp [.ref a, .ref b] H Q E))
  | .ref a, .int i => IsO K H c a (sp [.ref a, .int i] H Q E)
  | .int i, .ref b => IsO K H c b (spR [.ref b, .int i] H Q E)
  | x, y => r x y H Q
theorem op_ownI {op : Operator} {r : R2} (iop : IntOp op) (mf : MF X.K c ups tys) (hty : "int" ∉ tys) (hm : Meth X.K (He.ga X.K c) (PySem.dunder op.info.2) g) (hmR : Meth X.K (He.ga X.K c) (PySem.dunderR op.info.2) gR)
    (F : FnR X.prog X.w X.K X.mg X.base (L2.CX X.prog X.w) k g sp) (FR' : FnR X.prog X.w X.K X.mg X.base (L2.CX X.prog X.w) kR gR spR) (hr : Room k X.A) (hrR : Room kR X.A) (hx : ∀ σ, PassesAt (L2.CX X.prog X.w) X σ E) (h0 : OpR X (binaryOp op) r) : OpR X (binaryOp op) (oOwnI X.K c sp spR E r) := by
  obtain ⟨fo, ro, idl, B, f1, f2, fi, slot, entry, args, gv⟩ := iop.ex
  have hsub : PySem.W.subIn X.K (.ref (He.ga X.K c)) (.type "int") = some false := by
    rw [mf_sub mf]
    congr 1
    rw [decide_eq_false_iff_not]
    intro z
    rcases List.mem_append.mp z with z | z
    · obtain ⟨_, _, e⟩ := List.mem_map.mp z
      cases e
    · obtain ⟨y, hy, e⟩ := List.mem_map.mp z
      cases e
      exact hty hy
  intro pins s σ H x y v u Q I rx ry q
  have own : ∀ a b, x = .ref a → y = .ref b → IsO X.K H c a (IsO X.K H c b (sp [.ref a, .ref b] H Q E)) → wpAny (model X.prog X.w) X.A (binaryOp op v u) (EP X pins σ Q) X.xe s := by
    intro a b ex ey q
    subst ex ey
    cases rx
    cases ry
    obtain ⟨⟨dx, vs, hsl⟩, ⟨⟨dy, ws, hsl2⟩, q⟩⟩ := q
    obtain ⟨sl, od, _, J, _⟩ := SlX.slt_inst I hsl
    obtain ⟨sl', od', _, J', _⟩ := SlX.slt_inst I hsl2
    obtain ⟨m, hF⟩ := I.fr
    refine PySem.W.binop_K hF I.ok.mod.kin J J'.type (mf_first mf) hm.at_ hm.fn ?_
    refine wpAny_mono (run_op (us := [.ref a, .ref b]) (vs := [.ref a, .ref b]) F hr I.env0 hx I (.cons rfl (.cons rfl .nil)) q) (fun w s' z => ?_) fun _ _ x => x
    obtain ⟨z', H', I', rz, qz⟩ := z
    exact SlX.cmpback rz ⟨z', H', I', rz, qz⟩
  have left : ∀ a i, x = .ref a → y = .int i → IsO X.K H c a (sp [.ref a, .int i] H Q E) → wpAny (model X.prog X.w) X.A (binaryOp op v u) (EP X pins σ Q) X.xe s := by
    intro a i ex ey q
    subst ex ey
    cases rx
    obtain ⟨t, rfl⟩ := ry
    obtain ⟨⟨dx, vs, hsl⟩, q⟩ := q
    obtain ⟨sl, od, _, J, _⟩ := SlX.slt_inst I hsl
    obtain ⟨m, hF⟩ := I.fr
    refine PySem.W.ksp_binT (T := "int") hF I.ok.mod.kin J rfl (mf_first mf) hm.at_ hm.fn hmR.at_ (.inr ⟨_, rfl⟩) (f1 _) (f2 _) sub_int ?_
    refine wpAny_mono (run_op (us := [.ref a, .int i t]) (vs := [.ref a, .int i]) F hr I.env0 hx I (.cons rfl (.cons ⟨t, rfl⟩ .nil)) q) (fun w s' z => ?_) fun _ _ x => x
    obtain ⟨z', H', I', rz, qz⟩ := z
    exact SlX.cmpback rz ⟨z', H', I', rz, qz⟩
  have right : ∀ i b, x = .int i → y = .ref b → IsO X.K H c b (spR [.ref b, .int i] H Q E) → wpAny (model X.prog X.w) X.A (binaryOp op v u) (EP X pins σ Q) X.xe s := by
    intro i b ex ey q
    subst ex ey
    obtain ⟨t, rfl⟩ := rx
    cases ry
    obtain ⟨⟨dx, vs, hsl⟩, q⟩ := q
    obtain ⟨sl, od, _, J, _⟩ := SlX.slt_inst I hsl
    obtain ⟨m, hF⟩ := I.fr
    refine binR (I.ok.mod.kin.keeps hF.keep) J (fun v z => by cases z) (mf_first mf) hm.at_ hmR.at_ hmR.fn fi slot entry (args _ _) (gv _ _ _) hsub ?_
    refine wpAny_mono (run_op (us := [.ref b, .int i t]) (vs := [.ref b, .int i]) FR' hrR I.env0 hx I (.cons rfl (.cons ⟨t, rfl⟩ .nil)) q) (fun w s' z => ?_) fun _ _ x => x
    obtain ⟨z', H', I', rz, qz⟩ := z
    exact SlX.cmpback rz ⟨z', H', I', rz, qz⟩
  cases x <;> cases y <;> first | exact own _ _ rfl rfl q | exact left _ _ rfl rfl q | exact right _ _ rfl rfl q | exact h0 pins s σ H _ _ v u Q I rx ry q
/-- the same with an instance ahead alone -/
def oOwnL (K : Frag) (c : Str) (sp : Sp) (E : XK) (r : R2) : R2 := fun x y H Q => match x, y with
  | .ref a, .ref b => IsO K H c a (IsO K H c b (sp [.ref a, .ref b] H Q E))
  | .ref a, .int i => IsO K H c a (sp [.ref a, .int i] H Q E)
  | x, y => r x y H Q
theorem op_ownL {op : Operator} {r : R2} (iop : IntOp op) (mf : MF X.K c ups tys) (hm : Meth X.K (He.ga X.K c) (PySem.dunder op.info.2) g) (hmR : Meth X.K (He.ga X.K c) (PySem.dunderR op.info.2) gR)
    (F : FnR X.prog X.w X.K X.mg X.base (L2.CX X.prog X.w) k g sp) (hr : Room k X.A) (hx : ∀ σ, PassesAt (L2.CX X.prog X.w) X σ E) (h0 : OpR X (binaryOp op) r) : OpR X (binaryOp op) (oOwnL X.K c sp E r) := by
  obtain ⟨fo, ro, idl, B, f1, f2, fi, slot, entry, args, gv⟩ := iop.ex
  intro pins s σ H x y v u Q I rx ry q
  have own : ∀ a b, x = .ref a → y = .ref b → IsO X.K H c a (IsO X.K H c b (sp [.ref a, .ref b] H Q E)) → wpAny (model X.prog X.w) X.A (binaryOp op v u) (EP X pins σ Q) X.xe s := by
    intro a b ex ey q
    subst ex ey
    cases rx
    cases ry
    obtain ⟨⟨dx, vs, hsl⟩, ⟨⟨dy, ws, hsl2⟩, q⟩⟩ := q
    obtain ⟨sl, od, _, J, _⟩ := SlX.slt_inst I hsl
    obtain ⟨sl', od', _, J', _⟩ := SlX.slt_inst I hsl2
    obtain ⟨m, hF⟩ := I.fr
    refine PySem.W.binop_K hF I.ok.mod.kin J J'.type (mf_first mf) hm.at_ hm.fn ?_
    refine wpAny_mono (run_op (us := [.ref a, .ref b]) (vs := [.ref a, .ref b]) F hr I.env0 hx I (.cons rfl (.cons rfl .nil)) q) (fun w s' z => ?_) fun _ _ x => x
    obtain ⟨z', H', I', rz, qz⟩ := z
    exact SlX.cmpback rz ⟨z', H', I', rz, qz⟩
  have left : ∀ a i, x = .ref a → y = .int i → IsO X.K H c a (sp [.ref a, .int i] H Q E) → wpAny (model X.prog X.w) X.A (binaryOp op v u) (EP X pins σ Q) X.xe s := by
    intro a i ex ey q
    subst ex ey
    cases rx
    obtain ⟨t, rfl⟩ := ry
    obtain ⟨⟨dx, vs, hsl⟩, q⟩ := q
    obtain ⟨sl, od, _, J, _⟩ := SlX.slt_inst I hsl
    obtain ⟨m, hF⟩ := I.fr
    refine PySem.W.ksp_binT (T := "int") hF I.ok.mod.kin J rfl (mf_first mf) hm.at_ hm.fn hmR.at_ (.inr ⟨_, rfl⟩) (f1 _) (f2 _) sub_int ?_
    refine wpAny_mono (run_op (us := [.ref a, .int i t]) (vs := [.ref a, .int i]) F hr I.env0 hx I (.cons rfl (.cons ⟨t, rfl⟩ .nil)) q) (fun w s' z => ?_) fun _ _ x => x
    obtain ⟨z', H', I', rz, qz⟩ := z
    exact SlX.cmpback rz ⟨z', H', I', rz, qz⟩
  cases x <;> cases y <;> first | exact own _ _ rfl rfl q | exact left _ _ rfl rfl q | exact h0 pins s σ H _ _ v u Q I rx ry q
end
end S
namespace S
open PySem PySem.Spec PyProof.Rows L2
/-! ### abs of an instance with its own __abs__ -/
section
variable {X : Cx} {k : Nat} {g : Addr} {sp : Sp} {E : XK} {c : Str} {ups : List Str} {tys : List String}
def cAbsO (K : Frag) (c : Str) (sp : Sp) (E : XK) : List V → Hp → VK → Prop := fun xs H Q => match xs with
  | [.int i] => Q (.int (i.natAbs : Int)) H
  | [.ref p] => IsO K H c p (sp [.ref p] H Q E)
  | _ => False
theorem c_absO (hm : Meth X.K (He.ga X.K c) "__abs__" g) (F : FnR X.prog X.w X.K X.mg X.base (L2.CX X.prog X.w) k g sp) (hr : Room (k + 1) X.A) (hx : ∀ σ, PassesAt (L2.CX X.prog X.w) X σ E) : CallR X (.builtin "abs") (cAbsO X.K c sp E) := by
  intro pins s σ H xs us Q I r h
  match xs, h with
  | [.int i], h => exact (c_abs (X := X)) pins s σ H _ us Q I r h
  | [.ref p], ⟨⟨dx, vs, hsl⟩, q⟩ =>
    obtain ⟨u, rfl, rfl⟩ := r.one
    obtain ⟨sl, od, _, J, _⟩ := SlX.slt_inst I hsl
    obtain ⟨m, hF⟩ := I.fr
    have hr2 : Room k X.A.in1 := Room.in1 hr
    refine Calls.call_function_entry kind_abs plain_abs entry_abs (args_abs _) ?_
    unfold Builtin.«abs»
    refine wpAny_bind (m := oneArg "abs" _) (wpAny_pure ?_)
    refine wpAny_bind (PySem.W.special_fn I.kIn J hm.at_ (beq_iff_eq.mp hm.fn) ?_)
    refine wpAny_mono (run_op (us := [.ref p]) (vs := [.ref p]) F hr2 I.env0.in1 hx I (.cons rfl .nil) q) (fun w s' z => ?_) fun _ _ x => x
    exact wpAny_pure ⟨_, rfl, z⟩
end
/-! ### x op i, x an instance whose class has no reflected op -/
structure IntOpN (op : Operator) : Prop where
  ex : ∃ (fo ro : Option Value), (∀ K : Frag, PySem.W.findIn K (.type "int") (PySem.dunder op.info.2) = some fo) ∧ (∀ K : Frag, PySem.W.findIn K (.type "int") (PySem.dunderR op.info.2) = some ro)
theorem intN_shl : IntOpN .LShift := ⟨some (.builtin "int.__lshift__"), some (.builtin "int.__rlshift__"), fun _ => by show PySem.fastLookup "int" "__lshift__" = _; kernel_rfl, fun _ => by show PySem.fastLookup "int" "__rlshift__" = _; kernel_rfl⟩
theorem intN_shr : IntOpN .RShift := ⟨some (.builtin "int.__rshift__"), some (.builtin "int.__rrshift__"), fun _ => by show PySem.fastLookup "int" "__rshift__" = _; kernel_rfl, fun _ => by show PySem.fastLookup "int" "__rrshift__" = _; kernel_rfl⟩
def NoM (K : Frag) (c m : Str) : Prop := PySem.W.findIn K (.ref (He.ga K c)) m = some none
def noMB (c m : Str) (K : Frag) : Bool := He.eqO (PySem.W.findIn K (.ref (He.ga K c)) m) (some none)
theorem noMB_ok {K : Frag} {c m : Str} (h : noMB c m K = true) : NoM K c m := He.eqO_ok h
section
variable {X : Cx} {k : Nat} {g : Addr} {sp : Sp} {E : XK} {c : Str} {ups : List Str} {tys : List String}
def oOwnN (K : Frag) (c : Str) (sp : Sp) (E : XK) (r : R2) : R2 := fun x y H Q => match x, y with
  | .ref a, .int i => IsO K H c a (sp [.ref a, .int i] H Q E)
  | x, y => r x y H Q
theorem op_ownN {op : Operator} {r : R2} (iop : IntOpN op) (mf : MF X.K c ups tys) (hm : Meth X.K (He.ga X.K c) (PySem.dunder op.info.2) g) (hn : NoM X.K c (PySem.dunderR op.info.2))
    (F : FnR X.prog X.w X.K X.mg X.base (L2.CX X.prog X.w) k g sp) (hr : Room k X.A) (hx : ∀ σ, PassesAt (L2.CX X.prog X.w) X σ E) (h0 : OpR X (binaryOp op) r) : OpR X (binaryOp op) (oOwnN X.K c sp E r) := by
  obtain ⟨fo, ro, f1, f2⟩ := iop.ex
  intro pins s σ H x y v u Q I rx ry q
  have left : ∀ a i, x = .ref a → y = .int i → IsO X.K H c a (sp [.ref a, .int i] H Q E) → wpAny (model X.prog X.w) X.A (binaryOp op v u) (EP X pins σ Q) X.xe s := by
    intro a i ex ey q
    subst ex ey
    cases rx
    obtain ⟨t, rfl⟩ := ry
    obtain ⟨⟨dx, vs, hsl⟩, q⟩ := q
    obtain ⟨sl, od, _, J, _⟩ := SlX.slt_inst I hsl
    obtain ⟨m, hF⟩ := I.fr
    refine PySem.W.ksp_binT (T := "int") hF I.ok.mod.kin J rfl (mf_first mf) hm.at_ hm.fn hn (.inl rfl) (f1 _) (f2 _) sub_int ?_
    refine wpAny_mono (run_op (us := [.ref a, .int i t]) (vs := [.ref a, .int i]) F hr I.env0 hx I (.cons rfl (.cons ⟨t, rfl⟩ .nil)) q) (fun w s' z => ?_) fun _ _ x => x
    obtain ⟨z', H', I', rz, qz⟩ := z
    exact SlX.cmpback rz ⟨z', H', I', rz, qz⟩
  cases x <;> cases y <;> first | exact left _ _ rfl rfl q | exact h0 pins s σ H _ _ v u Q I rx ry q
end
/-! ### == of two tuples of instances with their own == -/
section
variable {prog : Program} {w : World} {A : Around} {R : Result → Shared → Prop}
theorem tuple_eqB (l b : Addr) (items items2 : Array Value) (n n2 : Nat) (dd dd2 : Option Addr) (sl sl2 : Array (Option Value)) (bs : Nat → Bool) (I : Nat → Shared → Prop)
    (turn : ∀ i (h1 : i < items.size) (h2 : i < items2.size) s, I i s → wpAny (model prog w) A.in1 (eqBool items[i] items2[i]) (fun r s' => r = bs i ∧ I (i + 1) s') (fun e s' => R (.error e) s') s)
    (fin : ∀ i s (r : Bool), I i s → (r = true ↔ items.size = items2.size ∧ ∀ j, j < items.size → bs j = true) → R (.ok (.ret (.bool r))) s) {s : Shared}
    (hl1 : s.heap.get? l = some { cls := .type "tuple", dict := dd, data := .seq items n, slots := sl }) (hb1 : s.heap.get? b = some { cls := .type "tuple", dict := dd2, data := .seq items2 n2, slots := sl2 }) (h : I 0 s) :
    wpAny (model prog w) A.in1 (Builtin.«tuple.__eq__» ⟨[.ref l, .ref b], []⟩) (GQ.FinOf prog w A R) (fun e s' => R (.error e) s') s := by
  have f2 := AutoSeq1.sub_tuple_tuple
  have hZ : (items.toList.zip items2.toList).length = min items.size items2.size := by simp
  have h0 := h
  obtain ⟨hp, g, d, tk, os⟩ := s
  wp_walk using AutoSeq1.wpAny_loadPart' hl1, AutoSeq1.wpAny_loadPart' hb1, wpAny_forIn_list _ (fun rest b s' => b.1 = none ∧ ∃ i, rest = (items.toList.zip items2.toList).drop i ∧ i ≤ min items.size items2.size ∧ (∀ j, j < i → bs j = true) ∧ I i s') _
  case turn =>
    rintro ⟨y, x⟩ rest b s' ⟨hb', i, hz, hi, hj, hI⟩
    have hlt : i < (items.toList.zip items2.toList).length := by
      rcases Nat.lt_or_ge i (items.toList.zip items2.toList).length with h' | h'
      · exact h'
      · rw [List.drop_of_length_le h'] at hz; cases hz
    have h1 : i < items.size := by omega
    have h2 : i < items2.size := by omega
    rw [List.drop_eq_getElem_cons hlt] at hz
    injection hz with hyx hrest
    have hy : y = items[i] := by have := congrArg Prod.fst hyx; simpa using this
    have hx : x = items2[i] := by have := congrArg Prod.snd hyx; simpa using this
    subst hy hx
    refine wpAny_bind (wpAny_mono (turn i h1 h2 s' hI) (fun r s2 q2 => ?_) fun _ _ x => x)
    obtain ⟨hr, q2⟩ := q2
    subst hr
    cases hbi : bs i with
    | true =>
      wp_walk
      refine ⟨rfl, i + 1, hrest, by omega, fun j hj' => ?_, q2⟩
      by_cases e : j = i
      · rw [e]; exact hbi
      · exact hj j (by omega)
    | false =>
      have hR : R (.ok (.ret (.bool false))) s2 := fin _ s2 false q2 ⟨(fun z => nomatch z), fun z => by rw [z.2 i h1] at hbi; cases hbi⟩
      wp_walk
      exact hR
  case fin =>
    rintro ⟨b1, b2⟩ s' ⟨hb', i, hz, hi, hj, hI⟩
    simp only at hb'
    subst hb'
    have hge : min items.size items2.size ≤ i := by
      rcases Nat.lt_or_ge i (items.toList.zip items2.toList).length with h' | h'
      · rw [List.drop_eq_getElem_cons h'] at hz; cases hz
      · exact hZ ▸ h'
    have hR : R (.ok (.ret (.bool (items.size == items2.size)))) s' := fin _ s' _ hI (by
      rw [beq_iff_eq]
      exact ⟨fun e => ⟨e, fun j hj' => hj j (by omega)⟩, fun e => e.1⟩)
    wp_walk
    exact hR
  case h =>
    exact ⟨rfl, 0, rfl, Nat.zero_le _, (fun j hj => absurd hj (Nat.not_lt_zero _)), h0⟩
theorem rc_tupB {E : Value → Shared → Prop} {s : Shared} {l b : Addr} {items items2 : Array Value} {Q : Value → Shared → Prop} (hu : A.units < cLine) (bs : Nat → Bool) (I : Nat → Shared → Prop)
    (hl : s.heap.IsTuple l items) (hb : s.heap.IsTuple b items2)
    (turn : ∀ i (h1 : i < items.size) (h2 : i < items2.size) s, I i s → wpAny (model prog w) A.in1 (eqBool items[i] items2[i]) (fun r s' => r = bs i ∧ I (i + 1) s') E s)
    (fin : ∀ i s (r : Bool), I i s → (r = true ↔ items.size = items2.size ∧ ∀ j, j < items.size → bs j = true) → Q (.bool r) s) (h : I 0 s) : wpAny (model prog w) A (richCompare .Eq (.ref l) (.ref b)) Q E s := by
  obtain ⟨⟨cls, dd, data, sl⟩, ho, hc, n, hd⟩ := id hl
  obtain ⟨⟨cls2, dd2, data2, sl2⟩, ho2, hc2, n2, hd2⟩ := id hb
  simp only at hc hd hc2 hd2
  subst hc hd hc2 hd2
  refine wpAny_richCompare_same_room (op := .Eq) ⟨_, ho, rfl⟩ ⟨_, ho2, rfl⟩ F.slot_tuple_eq (GQ.call_here F.slot_tuple_eq ⟨_, ho, rfl⟩ F.entry_tuple_eq (F.args_tuple_eq_2 _ _) ?_) hu
  exact tuple_eqB (R := wants (fun v s' => v ≠ .notImplemented ∧ Q v s') E) l b items items2 n n2 dd dd2 sl sl2 bs I turn (fun i s' r q e => ⟨(fun x => nomatch x), fin i s' r q e⟩) ho ho2 h
end
/-- two tuples of instances of c: their own == answers by bs -/
structure EqT (K : Frag) (c : Str) (sp : Sp) (E : XK) (H : Hp) (a b : Addr) (k : Bool → Hp → Prop) : Prop where
  ex : ∃ (xs ys : List V) (bs : Nat → Bool) (r : Bool), SqT K H a xs ∧ SqT K H b ys ∧
    (∀ (i : Nat) x y, xs[i]? = some x → ys[i]? = some y → ∃ p q, x = .ref p ∧ y = .ref q ∧ (p = q → bs i = true) ∧ ∀ H', Same H H' → IsO K H' c p (IsO K H' c q (sp [.ref p, .ref q] H' (fun v H2 => v = .bl (bs i) ∧ Same H' H2) E))) ∧
    (r = true ↔ xs.length = ys.length ∧ ∀ j, j < xs.length → bs j = true) ∧ ∀ H', Same H H' → k r H'
section
variable {X : Cx} {k : Nat} {g : Addr} {sp : Sp} {E : XK} {c : Str}
theorem eqT_run (hm : Meth X.K (He.ga X.K c) "__eq__" g) (F : FnR X.prog X.w X.K X.mg X.base (L2.CX X.prog X.w) k g sp) (hr : Room (k + 1) X.A) (hx : ∀ σ, PassesAt (L2.CX X.prog X.w) X σ E) {pins : List (Addr × Obj)} {s : Shared} {σ : L2.St} {H : Hp} {a b : Addr} {Q : VK} (I : Inv X pins σ H s)
    (q : EqT X.K c sp E H a b fun r H' => Q (.bl r) H') : wpAny (model X.prog X.w) X.A (richCompare .Eq (.ref a) (.ref b)) (EP X pins σ Q) X.xe s := by
  obtain ⟨⟨xs, ys, bs, r, ha, hb, hi, hr2, q⟩⟩ := q
  obtain ⟨its, rv, e, z⟩ := I.tuple ha
  obtain ⟨its2, rv2, e2, z2⟩ := I.tuple hb
  have l1 := rv.length
  have l2 := rv2.length
  refine rc_tupB hr.units0 bs (fun _ s' => ∃ H', Inv X pins σ H' s' ∧ Same H H') e e2 ?_ ?_ ⟨H, I, Same.refl _⟩
  · rintro i h1 h2 s' ⟨H', I', e'⟩
    have h1' : i < its.length := by simpa using h1
    have h2' : i < its2.length := by simpa using h2
    have g1 : its[i]? = some its.toArray[i] := by rw [List.getElem?_eq_getElem h1'] <;> simp
    have g2 : its2[i]? = some its2.toArray[i] := by rw [List.getElem?_eq_getElem h2'] <;> simp
    have k1 : i < xs.length := by omega
    have k2 : i < ys.length := by omega
    obtain ⟨u, hu, ru⟩ := rv.get (List.getElem?_eq_getElem k1)
    obtain ⟨v, hv, rvv⟩ := rv2.get (List.getElem?_eq_getElem k2)
    rw [g1] at hu
    rw [g2] at hv
    rw [Option.some.inj hu, Option.some.inj hv]
    obtain ⟨p, p2, ex, ey, hsame, hown⟩ := hi i _ _ (List.getElem?_eq_getElem k1) (List.getElem?_eq_getElem k2)
    rw [ex] at ru
    rw [ey] at rvv
    cases ru
    cases rvv
    by_cases hpp : p = p2
    · subst hpp
      rw [hsame rfl]
      exact SeqAt.EqAt.same (A := X.A.in1) (s := s') (.ref p) X.prog X.w X.xe _ ⟨rfl, H', I', e'⟩
    · obtain ⟨⟨dx, vs, hsl⟩, ⟨⟨dy, ws, hsl2⟩, q1⟩⟩ := hown H' e'
      obtain ⟨sl, od, _, J, _⟩ := SlX.slt_inst I' hsl
      obtain ⟨sl', od', _, J', _⟩ := SlX.slt_inst I' hsl2
      obtain ⟨m, hF⟩ := I'.fr
      have hr1 : Room k X.A.in1 := Room.in1 hr
      refine GQ.eqBool_refG hpp ?_
      refine PySem.W.cmp_K (op := .Eq) (tb := .ref (He.ga X.K c)) hr1.units0 hF I'.ok.mod.kin J J'.type (by unfold PySem.W.notFirst; simp) hm.at_ hm.fn ?_
      refine wpAny_mono (run_op (us := [.ref p, .ref p2]) (vs := [.ref p, .ref p2]) F hr1 I'.env0.in1 hx I' (.cons rfl (.cons rfl .nil)) q1) (fun w s2 z => ?_) fun _ _ x => x
      obtain ⟨z', H2, I2, rz, ez, e3⟩ := z
      subst ez
      cases rz
      exact ⟨_, rfl, rfl, H2, I2, e'.trans e3⟩
  · rintro i s' b' ⟨H', I', e'⟩ hb'
    have eb : b' = r := by
      rw [Bool.eq_iff_iff, hb', hr2]
      simp only [List.size_toArray]
      rw [← l1, ← l2]
    subst eb
    exact ⟨.bl b', H', I', rfl, q H' e'⟩
/-- x == y: of tuples of instances of c; of instances by their own def; of data -/
structure EqOT (K : Frag) (c : Str) (sp : Sp) (E : XK) (H : Hp) (a b : Addr) (Q : VK) : Prop where
  ex : EqOr K c H a b (sp [.ref a, .ref b] H Q E) (fun k => Q (.bl k) H) ∨ EqT K c sp E H a b fun r H' => Q (.bl r) H'
def oEqT (K : Frag) (c : Str) (sp : Sp) (E : XK) : R2 := fun x y H Q => match x, y with
  | .ref a, .ref b => EqOT K c sp E H a b Q
  | x, y => oEq K x y H Q
theorem op_eqT (hm : Meth X.K (He.ga X.K c) "__eq__" g) (F : FnR X.prog X.w X.K X.mg X.base (L2.CX X.prog X.w) k g sp) (hr : Room (k + 1) X.A) (hx : ∀ σ, PassesAt (L2.CX X.prog X.w) X σ E) : OpR X (compareOp .Eq) (oEqT X.K c sp E) := by
  have h1 : OpR X (compareOp .Eq) (oEqO X.K c sp E) := op_eqO hm F (hr.mono (Nat.le_succ _)) hx
  have h0 : OpR X (compareOp .Eq) (oEq X.K) := o_eq hr.units
  intro pins s σ H x y v u Q I rx ry q
  have two : ∀ a b, x = .ref a → y = .ref b → EqOT X.K c sp E H a b Q → wpAny (model X.prog X.w) X.A (compareOp .Eq v u) (EP X pins σ Q) X.xe s := by
    intro a b ex ey q1
    clear q
    subst ex ey
    rcases q1.ex with q | q
    · exact h1 pins s σ H _ _ v u Q I rx ry q
    · cases rx
      cases ry
      exact eqT_run hm F hr hx I q
  cases x <;> cases y <;> first
    | exact two _ _ rfl rfl q
    | exact h0 pins s σ H _ _ v u Q I rx ry q
end
end S
namespace S
open PySem PySem.Spec PyProof.Rows L2
/-! ### x op y: two instances of c by their own def; two others by r -/
structure OwnOr (K : Frag) (H : Hp) (c : Str) (a b : Addr) (P R : Prop) : Prop where
  ex : IsO K H c a (IsO K H c b P) ∨ R
theorem OwnOr.own {K : Frag} {H : Hp} {c : Str} {a b : Addr} {P R : Prop} (h : IsO K H c a (IsO K H c b P)) : OwnOr K H c a b P R := ⟨.inl h⟩
theorem OwnOr.dat {K : Frag} {H : Hp} {c : Str} {a b : Addr} {P R : Prop} (h : R) : OwnOr K H c a b P R := ⟨.inr h⟩
section
variable {X : Cx} {k kR : Nat} {g gR : Addr} {sp spR : Sp} {E : XK} {c : Str} {ups : List Str} {tys : List String}
def oOwnJ (K : Frag) (c : Str) (sp spR : Sp) (E : XK) (r : R2) : R2 := fun x y H Q => match x, y with
  | .ref a, .ref b => OwnOr K H c a b (sp [.ref a, .ref b] H Q E) (r (.ref a) (.ref b) H Q)
  | .ref a, .int i => IsO K H c a (sp [.ref a, .int i] H Q E)
  | .int i, .ref b => IsO K H c b (spR [.ref b, .int i] H Q E)
  | x, y => r x y H Q
theorem op_ownJ {op : Operator} {r : R2} (iop : IntOp op) (mf : MF X.K c ups tys) (hty : "int" ∉ tys) (hm : Meth X.K (He.ga X.K c) (PySem.dunder op.info.2) g) (hmR : Meth X.K (He.ga X.K c) (PySem.dunderR op.info.2) gR)
    (F : FnR X.prog X.w X.K X.mg X.base (L2.CX X.prog X.w) k g sp) (FR' : FnR X.prog X.w X.K X.mg X.base (L2.CX X.prog X.w) kR gR spR) (hr : Room k X.A) (hrR : Room kR X.A) (hx : ∀ σ, PassesAt (L2.CX X.prog X.w) X σ E) (h0 : OpR X (binaryOp op) r) : OpR X (binaryOp op) (oOwnJ X.K c sp spR E r) := by
  have h1 : OpR X (binaryOp op) (oOwnI X.K c sp spR E r) := op_ownI iop mf hty hm hmR F FR' hr hrR hx h0
  intro pins s σ H x y v u Q I rx ry q
  have two : ∀ a b, x = .ref a → y = .ref b → OwnOr X.K H c a b (sp [.ref a, .ref b] H Q E) (r (.ref a) (.ref b) H Q) → wpAny (model X.prog X.w) X.A (binaryOp op v u) (EP X pins σ Q) X.xe s := by
    intro a b ex ey q1
    clear q
    subst ex ey
    rcases q1.ex with q | q
    · exact h1 pins s σ H _ _ v u Q I rx ry q
    · exact h0 pins s σ H _ _ v u Q I rx ry q
  cases x <;> cases y <;> first | exact two _ _ rfl rfl q | exact h1 pins s σ H _ _ v u Q I rx ry q
end
end S
namespace S
open PySem PySem.Spec PyProof.Rows L2
/-! ### the head's look, over what the named ones reach -/
def nsG (g : Addr → Option Obj) (ns : Addr) (x : Str) : List Addr := match g ns with
  | some ⟨_, _, .dict es _, _⟩ => (match es.toList.find? (·.key.isStr x) with
    | some e => He.refV e.val
    | none => [])
  | _ => []
def rfY (o : Obj) : List Addr := match o.data with
  | .cls cd => [cd.ns]
  | .func fd => He.refV fd.code ++ (He.refV fd.defaults ++ (He.refV fd.kwdefaults ++ fd.closure.map (·.2)))
  | .dict es _ => es.toList.flatMap fun e => He.refV e.val
  | .seq its _ => its.toList.flatMap He.refV
  | .fields vs => (match o.cls == .type "code" with
    | true => []
    | false => vs.toList.flatMap He.refV)
  | _ => []
def stepY (g : Addr → Option Obj) (as : List Addr) : List Addr := as.flatMap fun a => match g a with
  | some o => rfY o
  | none => []
def lvY (g : Addr → Option Obj) : Nat → List Addr → List Addr
  | 0, as => as
  | n + 1, as => as ++ lvY g n (stepY g as)
def asY (names : List Str) (g : Addr → Option Obj) : List Addr := mainGlobals :: cStatics :: lvY g 4 (names.flatMap (nsG g mainGlobals))
def obsYG (names : List Str) (fa : List He.Fa) (fx : List (Frag → Bool)) (fn : List DfX) (g : Addr → Option Obj) : AlX := obsK fa fx fn (He.frG g (asY names g))
def hookY (names : List Str) (fa : List He.Fa) (fx : List (Frag → Bool)) (fn : List DfX) : PySem.W.Hook where
  α := AlX
  obs := fun s => obsYG names fa fx fn s.heap.get?
  val := fun _ => valX fn
  says := fun _ h => ∃ K : Frag, K.In h ∧ SaysX fa fx fn K
  of := fun _ _ e => ⟨_, He.frG_in, e⟩
  keeps := fun _ _ _ ⟨K, hK, c⟩ k => ⟨K, PySem.W.Frag.In.keeps hK k, c⟩
theorem obsYG_eq {names : List Str} {fa : List He.Fa} {fx : List (Frag → Bool)} {fn : List DfX} {g : Addr → Option Obj} {s : Shared} (h : ∀ a, g a = s.heap.get? a) : obsYG names fa fx fn g = (hookY names fa fx fn).obs s := by
  have e : g = s.heap.get? := funext h
  rw [e] <;> rfl
theorem run_split2 {σ β γ : Type} {o : Option σ} {f : σ → Bool} {g : σ → β} {h : σ → γ} {v2 : β} {v3 : γ} (h1 : o.map (fun s => (f s, g s)) = some (true, v2)) (h2 : o.map h = some v3) : o.map (fun s => (f s, g s, h s)) = some (true, v2, v3) := by
  cases o with
  | none => cases h1
  | some s =>
    have e1 : (f s, g s) = (true, v2) := Option.some.inj h1
    have e2 : h s = v3 := Option.some.inj h2
    obtain ⟨e3, e4⟩ := Prod.mk.inj e1
    show some (f s, g s, h s) = _
    rw [e3, e4, e2]
end S
namespace S
open PySem PySem.Spec PyProof.Rows L2
/-! ### classes whose instances have a dict -/
structure DF (K : Frag) (x : Str) (ups : List Str) (fs : List Str) : Prop where
  mf : MF K x ups ["object"]
  cl : Cls K (He.ga K x)
  ha : PySem.W.findIn K (.ref (He.ga K x)) "__class__" = some (some (.builtin "object.__class__"))
  hn : PySem.W.specialIn K (.builtin "object.__class__") "__get__" = some (some (.builtin "getset_descriptor.__get__"))
  ht : PySem.W.takesIn K (.builtin "object.__class__") = some true
  hm : PySem.W.mroIn K (He.ga K x) (.type "object") = some true
  na : ∀ f ∈ fs, NoAttr K (He.ga K x) f
def dfB (x : Str) (ups fs : List Str) (K : Frag) : Bool := mfB K x ups ["object"] && ((He.Fa.cls x).ok K && (He.eqO (PySem.W.findIn K (.ref (He.ga K x)) "__class__") (some (some (.builtin "object.__class__"))) && (He.eqO (PySem.W.specialIn K (.builtin "object.__class__") "__get__") (some (some (.builtin "getset_descriptor.__get__"))) &&
  (decide (PySem.W.takesIn K (.builtin "object.__class__") = some true) && (decide (PySem.W.mroIn K (He.ga K x) (.type "object") = some true) && fs.all fun f => He.eqO (PySem.W.findIn K (.ref (He.ga K x)) f) (some none))))))
theorem dfB_ok {K : Frag} {x : Str} {ups fs : List Str} (h : dfB x ups fs K = true) : DF K x ups fs := by
  obtain ⟨h1, h⟩ := He.ba h
  obtain ⟨h2, h⟩ := He.ba h
  obtain ⟨h3, h⟩ := He.ba h
  obtain ⟨h4, h⟩ := He.ba h
  obtain ⟨h5, h⟩ := He.ba h
  obtain ⟨h6, h7⟩ := He.ba h
  exact ⟨mfB_ok h1, He.cls_ok h2, He.eqO_ok h3, He.eqO_ok h4, of_decide_eq_true h5, of_decide_eq_true h6, fun f hf => He.eqO_ok (List.all_eq_true.mp h7 f hf)⟩
section
variable {K : Frag} {H : Hp} {a dx : Addr} {x f : Str} {ups fs : List Str} {as : List (Str × V)}
theorem Atr.df {k : V → Prop} {v : V} (c : DF K x ups fs) (h : H a = some (.ins (He.ga K x) dx as)) (l : as.lookup f = some v) (q : k v) (hf : f ∈ fs := by decide) : Atr K H a f k := ⟨.inr ⟨_, dx, as, v, h, c.cl, c.na f hf, l, q⟩⟩
theorem Sto.df {k : Hp → Prop} {y : V} (c : DF K x ups fs) (h : H a = some (.ins (He.ga K x) dx as)) (l : as.length < 1000) (q : k (upd H a (.ins (He.ga K x) dx (putF f y as)))) (hf : f ∈ fs := by decide) : Sto K H a f y k := ⟨.inr ⟨_, dx, as, h, c.cl, c.na f hf, l, q⟩⟩
theorem Isi.df {y : Str} {ups' : List Str} {tys' : List String} {k : Bool → Prop} (c : DF K x ups fs) (h : H a = some (.ins (He.ga K x) dx as)) (n : MF K y ups' tys') (q : k (decide (y ∈ x :: ups))) : Isi K H (.ref a) (.ref (He.ga K y)) k :=
  Isi.of (.base (.ins h c.cl c.ha c.hn c.ht c.hm)) (mf_kit c.mf n) q
end
/-! ### methods, properties of such instances -/
structure IsD (K : Frag) (H : Hp) (c m : Str) (a : Addr) (q : Prop) : Prop where
  ex : ∃ dx fs, H a = some (.ins (He.ga K c) dx fs) ∧ fs.lookup m = none
  q : q
theorem IsD.of {K : Frag} {H : Hp} {c m : Str} {a dx : Addr} {fs : List (Str × V)} {q : Prop} (h : H a = some (.ins (He.ga K c) dx fs)) (h2 : q) (l : fs.lookup m = none := by rfl) : IsD K H c m a q := ⟨⟨dx, fs, h, l⟩, h2⟩
def dMethD (K : Frag) (c m : Str) (sp : Sp) (E : L2.St → XK) (ta : TE) (t : TA) : TE := fun σ H Q => ta σ H fun x H1 => match x with
  | .ref a => IsD K H1 c m a (t σ H1 fun ws H2 => sp (.ref a :: ws) H2 Q (E σ))
  | _ => False
section
variable {X : Cx} {k : Nat} {g : Addr} {sp : Sp} {E : L2.St → XK} {x c m : Str} {p pos apos : Pos} {e o : Expr} {es : List Expr} {t : TA} {ta : TE}
theorem pe_methD {pl : Sem Bool} (hc : Cls X.K (He.ga X.K c)) (hm : Meth X.K (He.ga X.K c) m g) (F : FnR X.prog X.w X.K X.mg X.base (L2.CX X.prog X.w) k g sp) (hr : Room k X.A) (hx : ∀ σ, PassesAt (L2.CX X.prog X.w) X σ (E σ)) (he : PE X o ta) (ha : PA X (e :: es) t)
    (hst : starEach (e :: es) X.env = (false, eval e X.env) :: starEach es X.env := by rfl) (hpl : (backTo pos (starEach es X.env)).any (·.1) = false := by rfl)
    (ht : eval (.Call (.Attribute o m apos) (e :: es) [] pos) X.env = (do
      let ov ← eval o X.env
      standAt apos.atName
      let (f, first) ← holding [ov] (getMethod ov m pl)
      callWith pos f first (backTo pos (starEach (e :: es) X.env)) (backToKw pos (keywordEach [] X.env))) := by rfl) :
    PE X (.Call (.Attribute o m apos) (e :: es) [] pos) (dMethD X.K c m sp E ta t) := by
  refine ⟨fun pins s σ H Q I h => ?_⟩
  refine PySem.W.methodCall_KW (pl := pl) (thn (he.run pins s σ H _ I h) fun u s1 ⟨x, H1, I1, rx, q⟩ => ?_) ht
  cases x <;> try exact q.elim
  cases rx
  obtain ⟨⟨dx, fs, ea, l⟩, q⟩ := q
  refine getmeth_ok I1 ea hc hm l ?_
  refine PySem.W.callWith_K (first := [.ref _]) (h₀ := X.base) I.ok.mod.kin hm.kp (thn (ha.run pos pins s1 σ H1 _ I1 q) fun us s2 ⟨ws, H2, I2, r, q2⟩ => ⟨I2.kIn, ?_⟩) hst hpl
  exact run_R (us := .ref _ :: us) (vs := .ref _ :: ws) F hr (hx σ) I2 (.cons rfl r) q2
theorem pe_methD0 {pl : Sem Bool} (hc : Cls X.K (He.ga X.K c)) (hm : Meth X.K (He.ga X.K c) m g) (F : FnR X.prog X.w X.K X.mg X.base (L2.CX X.prog X.w) k g sp) (hr : Room k X.A) (hx : ∀ σ, PassesAt (L2.CX X.prog X.w) X σ (E σ)) (he : PE X o ta)
    (ht : eval (.Call (.Attribute o m apos) [] [] pos) X.env = (do
      let ov ← eval o X.env
      standAt apos.atName
      let (f, first) ← holding [ov] (getMethod ov m pl)
      callWith pos f first (backTo pos (starEach [] X.env)) (backToKw pos (keywordEach [] X.env))) := by rfl) :
    PE X (.Call (.Attribute o m apos) [] [] pos) (dMethD X.K c m sp E ta tNil) := by
  refine ⟨fun pins s σ H Q I h => ?_⟩
  refine PySem.W.methodCall_KW (pl := pl) (thn (he.run pins s σ H _ I h) fun u s1 ⟨x, H1, I1, rx, q⟩ => ?_) ht
  cases x <;> try exact q.elim
  cases rx
  obtain ⟨⟨dx, fs, ea, l⟩, q⟩ := q
  refine getmeth_ok I1 ea hc hm l ?_
  exact PySem.W.callWith_K0 (first := [.ref _]) I1.kIn hm.kp (run_R (us := [.ref _]) (vs := [.ref _]) F hr (hx σ) I1 (.cons rfl .nil) q)
def dPropD (K : Frag) (c f : Str) (sp : Sp) (ta : TE) : TE := fun σ H Q => ta σ H fun x H1 => match x with
  | .ref a => IsD K H1 c f a (sp [.ref a] H1 Q E0)
  | _ => False
theorem pe_propD {f : Str} {n : Nat} (hc : Cls X.K (He.ga X.K c)) (pf : PropF X.K c f g) (F : FnR X.prog X.w X.K X.mg X.base (L2.CX X.prog X.w) n g sp) (hr : Room (n + 1) X.A) (he : PE X e ta)
    (hb : attributeBase e f X.env (eval e X.env) = eval e X.env := by rfl) : PE X (.Attribute e f pos) (dPropD X.K c f sp ta) := by
  refine ⟨fun pins s σ H Q I h => ?_⟩
  refine attr_of hb (thn (he.run pins s σ H _ I h) fun w s1 ⟨x, H1, I1, rx, q⟩ => ?_)
  cases x <;> try exact q.elim
  cases rx
  obtain ⟨⟨dx, fs, ea, l⟩, q⟩ := q
  obtain ⟨mA, O, _, _, _, _⟩ := ins_get I1.hok ea
  obtain ⟨od, J, _⟩ := O.look
  obtain ⟨rest, hrec⟩ := pf.rc
  have I2 := I1.tok (s1.toks + 1)
  have hcl : (PySem.W.clsIn X.K (He.ga X.K c)).isSome = true := by
    obtain ⟨cd, h2, _⟩ := PySem.W.any_some hc.hd
    rw [h2]
    rfl
  refine PySem.W.get_bind I1.kIn J (PySem.W.plainGet_of (hc.get f)).1 (PySem.W.findObj_data hcl pf.at_ pf.get pf.tk) (PySem.W.plainGet_of (hc.get f)).2 (wpAny_call (PySem.W.prop_get (s := { s1 with toks := s1.toks + 1 }) I1.kIn hrec ?_))
  refine codeAny_mono (F X.A.in1 X.stack { s1 with toks := s1.toks + 1 } H1 [.ref _] [.ref _] Q E0 hr.in1 I2.env0.in1 (.cons rfl .nil) q) fun r s' hq => ?_
  cases r with
  | error er =>
    obtain ⟨_, _, _, _, _, _, _, _, _, _, _, _, z⟩ := hq
    exact z.elim
  | ok fl =>
    cases fl with
    | ret u =>
      obtain ⟨v, H', I3, rv, q3⟩ := I2.after hq
      exact wpAny_of_eq (PySem.W.handedOut_of (handed_of rv)) ⟨v, H', I3, rv, q3⟩
    | next => exact False.elim hq
    | brk => exact False.elim hq
    | cont => exact False.elim hq
end
/-! ### calls with keywords -/
structure FK (P : Program) (w : World) (K : Frag) (mg : Str → Option Value) (base : Heap) (k : Nat) (f : Addr) (n : Nat) (ks : List Str) (sp : Sp) (gV : List V → List V → List V) : Prop where
  ex : ∃ (fd : FuncData) (ps : List Str) (g : List Value → List Value → List Value), FnOk P w K mg base (L2.CX P w) k f fd ps sp ∧ KBn K fd ps n ks g gV
theorem mk_fnK {P : Program} {w : World} {K : Frag} {mg : Str → Option Value} {base : Heap} {x qual : Str} {params : Arguments} {body : List Stmt} {scope : Scope} {f : Addr} {fd : FuncData} {N ps ks : List Str} {k n : Nat} {sp : Sp} {dvs : List V} {kws : List (Str × V)} {gV : List V → List V → List V} (F : FunD K x qual params body scope dvs kws f fd) (S : FnScope N ps scope)
    (len : ∀ vs H Q E, sp vs H Q E → vs.length = ps.length) (hb : ∃ g, KBn K fd ps n ks g gV) {t : XK → TS}
    (hbody : ∀ (cdv : Value) (A : Around) (outer : List Env) (s : Shared) (H : Hp) (E : XK), Room k (A.deeper (envOfC qual scope s.heap.objs.size f cdv)) →
      PSs (cxD P w K mg base N qual scope f cdv A outer s H E) body (t E))
    (pure : ∀ vs H Q E, sp vs H Q E → t E { nx := fun _ H' => Q .non H', rt := Q } (start N vs) H) : FK P w K mg base (k + 1) f n ks sp gV := by
  obtain ⟨g, hb⟩ := hb
  exact ⟨fd, ps, g, FunD.ok (P := P) (w := w) (mg := mg) (base := base) (CX := L2.CX P w) (sp := sp) F S len fun cdv A outer s H vs Q E hr h => ⟨t E, hbody cdv A outer s H E hr, pure vs H Q E h⟩, hb⟩
def dCallK (n m : Nat) (sp : Sp) (gV : List V → List V → List V) (E : L2.St → XK) (t tk : TA) : TE := fun σ H Q => t σ H fun vs H1 => tk σ H1 fun zs H2 => vs.length = n ∧ zs.length = m ∧ sp (gV vs zs) H2 Q (E σ)
def dMethDK (K : Frag) (c mt : Str) (n m : Nat) (sp : Sp) (gV : List V → List V → List V) (E : L2.St → XK) (ta : TE) (t tk : TA) : TE := fun σ H Q => ta σ H fun x H1 => match x with
  | .ref a => IsD K H1 c mt a (t σ H1 fun vs H2 => tk σ H2 fun zs H3 => vs.length + 1 = n ∧ zs.length = m ∧ sp (gV (.ref a :: vs) zs) H3 Q (E σ))
  | _ => False
section
variable {X : Cx} {k n : Nat} {f g : Addr} {ks : List Str} {sp : Sp} {E : L2.St → XK} {x c m : Str} {p pos apos : Pos} {e o : Expr} {es : List Expr} {kws : List Keyword} {t tk : TA} {ta : TE} {gV : List V → List V → List V}
theorem run_FK {pins : List (Addr × Obj)} {σ : L2.St} {H : Hp} {s : Shared} {Q : VK} {us ws : List Value} {vs zs : List V} (F : FK X.prog X.w X.K X.mg X.base k f n ks sp gV) (hr : Room k X.A) (hx : PassesAt (L2.CX X.prog X.w) X σ (E σ))
    (I : Inv X pins σ H s) (r : Vals vs us) (rz : Vals zs ws) (l1 : vs.length = n) (l2 : zs.length = ks.length) (h : sp (gV vs zs) H Q (E σ)) : wpAny (model X.prog X.w) X.A (call (.ref f) us (ks.zip ws)) (EP X pins σ Q) X.xe s := by
  obtain ⟨fd, ps, gg, F, hb⟩ := F.ex
  have r2 := hb.rel r rz
  refine wpAny_call (codeAny_mono (F.run X.A X.stack s H ⟨us, ks.zip ws⟩ (gg us ws) (gV vs zs) Q (E σ) hr I.env0 (hb.to s us ws I.kIn (r.length.symm.trans l1) (rz.length.symm.trans l2)) r2 h) fun r s' hq => ?_)
  cases r with
  | error e => exact hx pins H s e s' I hq
  | ok fl =>
    cases fl with
    | ret u => exact I.after hq
    | next => exact False.elim hq
    | brk => exact False.elim hq
    | cont => exact False.elim hq
/-- f(e, .., k = v, ..) -/
theorem pe_callK (F : FK X.prog X.w X.K X.mg X.base k f n ks sp gV) (hr : Room k X.A) (hm : X.mg x = some (.ref f)) (hk : PySem.W.keepIn X.K (.ref f) = true) (hx : ∀ σ, PassesAt (L2.CX X.prog X.w) X σ (E σ))
    (ha : PA X (e :: es) t) (hkw : PK X kws tk) (hg : Gl X x := by rfl) (hall : (backToKw pos (keywordEach kws X.env)).all (·.1.isSome) = true := by rfl) (hks : (backToKw pos (keywordEach kws X.env)).filterMap (·.1) = ks := by rfl)
    (hdb : (x == ("__debug__" : Str)) = false := by decide) (he : starEach (e :: es) X.env = (false, eval e X.env) :: starEach es X.env := by rfl)
    (hpl : ((backTo pos (starEach (e :: es) X.env)).any (·.1) || (backToKw pos (keywordEach kws X.env)).any (·.1.isNone)) = false := by rfl) :
    PE X (.Call (.Name x p) (e :: es) kws pos) (dCallK n ks.length sp gV E t tk) := by
  refine ⟨fun pins s σ H Q I h => ?_⟩
  refine wpAny_Call_Name_kw (ld_glob I hg hm ?_ hdb)
  refine PySem.W.callWith_KW (h₀ := X.base) I.ok.mod.kin hk hall (thn (ha.run pos pins s σ H _ I h) fun us s1 ⟨vs, H1, I1, r, q⟩ => ?_) hpl he
  refine thn (hkw.run pos pins s1 σ H1 _ I1 q) fun ws s2 ⟨zs, H2, I2, rz, l1, l2, q2⟩ => ⟨I2.kIn, ?_⟩
  rw [hks]
  exact run_FK F hr (hx σ) I2 r rz l1 l2 q2
/-- o.m(e, .., k = v, ..), o an instance with a dict -/
theorem pe_methDK {pl : Sem Bool} (hc : Cls X.K (He.ga X.K c)) (hm : Meth X.K (He.ga X.K c) m g) (F : FK X.prog X.w X.K X.mg X.base k g n ks sp gV) (hr : Room k X.A) (hx : ∀ σ, PassesAt (L2.CX X.prog X.w) X σ (E σ)) (he : PE X o ta) (ha : PA X (e :: es) t) (hkw : PK X kws tk)
    (hall : (backToKw pos (keywordEach kws X.env)).all (·.1.isSome) = true := by rfl) (hks : (backToKw pos (keywordEach kws X.env)).filterMap (·.1) = ks := by rfl)
    (hst : starEach (e :: es) X.env = (false, eval e X.env) :: starEach es X.env := by rfl) (hpl : ((backTo pos (starEach (e :: es) X.env)).any (·.1) || (backToKw pos (keywordEach kws X.env)).any (·.1.isNone)) = false := by rfl)
    (ht : eval (.Call (.Attribute o m apos) (e :: es) kws pos) X.env = (do
      let ov ← eval o X.env
      standAt apos.atName
      let (f, first) ← holding [ov] (getMethod ov m pl)
      callWith pos f first (backTo pos (starEach (e :: es) X.env)) (backToKw pos (keywordEach kws X.env))) := by rfl) :
    PE X (.Call (.Attribute o m apos) (e :: es) kws pos) (dMethDK X.K c m n ks.length sp gV E ta t tk) := by
  refine ⟨fun pins s σ H Q I h => ?_⟩
  refine PySem.W.methodCall_KW (pl := pl) (thn (he.run pins s σ H _ I h) fun u s1 ⟨x, H1, I1, rx, q⟩ => ?_) ht
  cases x <;> try exact q.elim
  cases rx
  obtain ⟨⟨dx, fs, ea, l⟩, q⟩ := q
  refine getmeth_ok I1 ea hc hm l ?_
  refine PySem.W.callWith_KW (first := [.ref _]) (h₀ := X.base) I.ok.mod.kin hm.kp hall (thn (ha.run pos pins s1 σ H1 _ I1 q) fun us s2 ⟨vs, H2, I2, r, q2⟩ => ?_) hpl hst
  refine thn (hkw.run pos pins s2 σ H2 _ I2 q2) fun ws s3 ⟨zs, H3, I3, rz, l1, l2, q3⟩ => ⟨I3.kIn, ?_⟩
  rw [hks]
  exact run_FK (us := .ref _ :: us) (vs := .ref _ :: vs) F hr (hx σ) I3 (.cons rfl r) rz (by rw [List.length_cons]; exact l1) l2 q3
end
end S
namespace S
open PySem PySem.Spec PyProof.Rows L2
/-! ### sum(a list of numbers) -/
structure SumL (K : Frag) (H : Hp) (a : Addr) (k : Int → Prop) : Prop where
  ex : ∃ ns : List Int, SqL K H a (ns.map V.int) ∧ k ns.sum
theorem SumL.of {K : Frag} {H : Hp} {a : Addr} {k : Int → Prop} {ns : List Int} (h : H a = some (.lst (ns.map V.int))) (q : k ns.sum) : SumL K H a k := ⟨ns, SqL.of h, q⟩
def cSum (K : Frag) : List V → Hp → VK → Prop := fun xs H Q => match xs with
  | [.ref a] => SumL K H a fun i => Q (.int i) H
  | _ => False
theorem c_sum {X : Cx} (hc : X.calm = true) : CallR X (.builtin "sum") (cSum X.K) := CallR.of (cr_sum hc) fun xs H Q q => by
  match xs, q with
  | [.ref a], ⟨⟨ns, h, q⟩⟩ => exact ⟨a, ns, rfl, h, q⟩
end S
namespace S
open PySem PySem.Spec PyProof.Rows L2
/-! ### x == y of an instance ahead with its own def and anything behind -/
/-- what the model takes the right side for -/
inductive RTy (K : Frag) (H : Hp) : V → Value → Prop where
  | dat {y : V} {d : PyData} (h : Dp K H y d) : RTy K H y (PySem.W.dataType d)
  | ins {b C dx : Addr} {vs : List (Option V)} (h : SlX.Slt H b C dx vs) : RTy K H (.ref b) (.ref C)
structure EqA (K : Frag) (c : Str) (sp : Sp) (E : XK) (H : Hp) (a : Addr) (y : V) (Q : VK) : Prop where
  ex : (∃ t, RTy K H y t ∧ PySem.W.notFirst K (He.ga K c) t = true ∧ IsO K H c a (sp [.ref a, y] H Q E)) ∨ oEq K (.ref a) y H Q
theorem EqA.of {K : Frag} {c : Str} {sp : Sp} {E : XK} {H : Hp} {a dx : Addr} {y : V} {Q : VK} {t : Value} {vs : List (Option V)} (r : RTy K H y t) (n : PySem.W.notFirst K (He.ga K c) t = true) (h : SlX.Slt H a (He.ga K c) dx vs) (q : sp [.ref a, y] H Q E) : EqA K c sp E H a y Q := ⟨.inl ⟨t, r, n, .of h q⟩⟩
theorem EqA.dat {K : Frag} {c : Str} {sp : Sp} {E : XK} {H : Hp} {a : Addr} {y : V} {Q : VK} (q : oEq K (.ref a) y H Q) : EqA K c sp E H a y Q := ⟨.inr q⟩
def oEqA (K : Frag) (c : Str) (sp : Sp) (E : XK) : R2 := fun x y H Q => match x with
  | .ref a => EqA K c sp E H a y Q
  | x => oEq K x y H Q
section
variable {X : Cx} {k : Nat} {g : Addr} {sp : Sp} {E : XK} {c : Str}
theorem op_eqA (hm : Meth X.K (He.ga X.K c) "__eq__" g) (F : FnR X.prog X.w X.K X.mg X.base (L2.CX X.prog X.w) k g sp) (hr : Room k X.A) (hx : ∀ σ, PassesAt (L2.CX X.prog X.w) X σ E) : OpR X (compareOp .Eq) (oEqA X.K c sp E) := by
  have h0 : OpR X (compareOp .Eq) (oEq X.K) := o_eq hr.units
  intro pins s σ H x y v u Q I rx ry q
  have own : ∀ a, x = .ref a → EqA X.K c sp E H a y Q → wpAny (model X.prog X.w) X.A (compareOp .Eq v u) (EP X pins σ Q) X.xe s := by
    intro a ex q1
    clear q
    subst ex
    rcases q1.ex with ⟨t, hy, hn, ⟨⟨dx, vs, hsl⟩, q⟩⟩ | q
    · cases rx
      obtain ⟨sl, od, _, J, _⟩ := SlX.slt_inst I hsl
      obtain ⟨m, hF⟩ := I.fr
      have hb : PySem.W.Looks (model X.prog X.w) s.heap (typeOf u) t := by
        cases hy with
        | dat h =>
          obtain ⟨as, hr⟩ := Dp.reads I _ _ _ h ry
          exact PySem.W.looks_reads hr
        | ins h =>
          cases ry
          obtain ⟨sl', od', _, J', _⟩ := SlX.slt_inst I h
          exact J'.type
      show wpAny _ _ (richCompare .Eq (.ref a) u) _ _ _
      refine PySem.W.cmp_K (op := .Eq) (tb := t) hr.units0 hF I.ok.mod.kin J hb hn hm.at_ hm.fn ?_
      refine wpAny_mono (run_op (us := [.ref a, u]) (vs := [.ref a, y]) F hr I.env0 hx I (.cons rfl (.cons ry .nil)) q) (fun w s' z => ?_) fun _ _ x => x
      obtain ⟨z', H', I', rz, qz⟩ := z
      exact SlX.cmpback rz ⟨z', H', I', rz, qz⟩
    · exact h0 pins s σ H _ _ v u Q I rx ry q
  cases x <;> first
    | exact own _ rfl q
    | exact h0 pins s σ H _ _ v u Q I rx ry q
end
/-- no class of the program stands among the built-in ones -/
theorem nf_int {K : Frag} {C : Addr} : PySem.W.notFirst K C (.type "int") = true := by unfold PySem.W.notFirst; rfl
theorem nf_tup {K : Frag} {C : Addr} : PySem.W.notFirst K C (.type "tuple") = true := by unfold PySem.W.notFirst; rfl
theorem nf_list {K : Frag} {C : Addr} : PySem.W.notFirst K C (.type "list") = true := by unfold PySem.W.notFirst; rfl
theorem nf_non {K : Frag} {C : Addr} : PySem.W.notFirst K C (.type "NoneType") = true := by unfold PySem.W.notFirst; rfl
theorem nf_str {K : Frag} {C : Addr} : PySem.W.notFirst K C (.type "str") = true := by unfold PySem.W.notFirst; rfl
theorem nf_self {K : Frag} {C : Addr} : PySem.W.notFirst K C (.ref C) = true := by unfold PySem.W.notFirst; simp
theorem nf_cls {K : Frag} {x y : Str} {ups ups' : List Str} {tys tys' : List String} (m : MF K x ups tys) (n : MF K y ups' tys') (h : y ∉ x :: ups) : PySem.W.notFirst K (He.ga K y) (.ref (He.ga K x)) = true := by
  have e := mf_cls m n
  obtain ⟨cd, e', _⟩ := n.cd
  change (if ((PySem.W.clsIn K (He.ga K y)).isSome && PySem.W.typeIn K (.ref (He.ga K y)) == some (.type "type")) = true then PySem.W.subIn K (.ref (He.ga K x)) (.ref (He.ga K y)) else none) = _ at e
  rw [if_pos (by rw [e', n.ty]; simp), decide_eq_false h] at e
  unfold PySem.W.notFirst
  rw [e]
  simp
end S
namespace S
open PySem PySem.Spec PyProof.Rows L2
/-! ### == of tuples of instances: what one address means is known in the run -/
theorem relV_inj {x y : V} {u : Value} (h : L2.RelV x u) (h2 : L2.RelV y u) : x = y := by
  have a : Vals [x] [u] := .cons h .nil
  have b : Vals [y] [u] := .cons h2 .nil
  exact List.cons.inj (a.inj b) |>.1
theorem slt_same14 {H H' : Hp} {a C dx : Addr} {vs : List (Option V)} (e : Same H H') (h : SlX.Slt H a C dx vs) : SlX.Slt H' a C dx vs := by
  rcases h with ⟨h, z⟩ | ⟨h, z⟩
  · exact .inl ⟨e _ _ h, z⟩
  · exact .inr ⟨e _ _ h, e _ _ z⟩
/-- what one heap says: tuples have one content -/
def TupOne (K : Frag) (H : Hp) : Prop := ∀ u xs ys, SqT K H u xs → SqT K H u ys → xs = ys
/-- two tuples of instances of c: their own == answers by bs -/
structure EqT2 (K : Frag) (c : Str) (sp : Sp) (E : XK) (H : Hp) (a b : Addr) (k : Bool → Hp → Prop) : Prop where
  ex : ∃ (xs ys : List V) (bs : Nat → Bool) (r : Bool), SqT K H a xs ∧ SqT K H b ys ∧
    (∀ (i : Nat) x y, xs[i]? = some x → ys[i]? = some y → ∃ p q dx vs dy ws, x = .ref p ∧ y = .ref q ∧ SlX.Slt H p (He.ga K c) dx vs ∧ SlX.Slt H q (He.ga K c) dy ws ∧ (TupOne K H → (∀ (j : Nat) v w, vs[j]? = some (some v) → ws[j]? = some (some w) → v = w) → p = q → bs i = true) ∧
      ∀ H', Same H H' → sp [.ref p, .ref q] H' (fun v H2 => v = .bl (bs i) ∧ Same H' H2) E) ∧
    (r = true ↔ xs.length = ys.length ∧ ∀ j, j < xs.length → bs j = true) ∧ ∀ H', Same H H' → k r H'
section
variable {X : Cx} {k : Nat} {g : Addr} {sp : Sp} {E : XK} {c : Str}
theorem eqT2_run (hm : Meth X.K (He.ga X.K c) "__eq__" g) (F : FnR X.prog X.w X.K X.mg X.base (L2.CX X.prog X.w) k g sp) (hr : Room (k + 1) X.A) (hx : ∀ σ, PassesAt (L2.CX X.prog X.w) X σ E) {pins : List (Addr × Obj)} {s : Shared} {σ : L2.St} {H : Hp} {a b : Addr} {Q : VK} (I : Inv X pins σ H s)
    (q : EqT2 X.K c sp E H a b fun r H' => Q (.bl r) H') : wpAny (model X.prog X.w) X.A (richCompare .Eq (.ref a) (.ref b)) (EP X pins σ Q) X.xe s := by
  obtain ⟨⟨xs, ys, bs, r, ha, hb, hi, hr2, q⟩⟩ := q
  refine eqT_run hm F hr hx I ⟨⟨xs, ys, bs, r, ha, hb, fun i x y h1 h2 => ?_, hr2, q⟩⟩
  obtain ⟨p, p2, dx, vs, dy, ws, ex, ey, hs1, hs2, hsame, hown⟩ := hi i x y h1 h2
  refine ⟨p, p2, ex, ey, fun e => ?_, fun H' e' => .of (slt_same14 e' hs1) (.of (slt_same14 e' hs2) (hown H' e'))⟩
  subst e
  refine hsame (fun u zs ws h h' => I.tuple_inj h h') (fun j v w hv hw => ?_) rfl
  obtain ⟨sl, od, r1, J, _⟩ := SlX.slt_inst I hs1
  obtain ⟨sl', od', r2, J', _⟩ := SlX.slt_inst I hs2
  obtain ⟨u1, e1, q1⟩ := r1 j v hv
  obtain ⟨u2, e2, q2⟩ := r2 j w hw
  have hJ := J.1
  have hJ' := J'.1
  rw [hJ] at hJ'
  have es := congrArg (fun o : Option Obj => o.map Obj.slots) hJ'
  have es2 : sl = sl' := Option.some.inj es
  subst es2
  rw [e1] at e2
  cases e2
  exact relV_inj q1 q2
structure EqOT2 (K : Frag) (c : Str) (sp : Sp) (E : XK) (H : Hp) (a b : Addr) (Q : VK) : Prop where
  ex : EqOr K c H a b (sp [.ref a, .ref b] H Q E) (fun k => Q (.bl k) H) ∨ EqT2 K c sp E H a b fun r H' => Q (.bl r) H'
def oEqT2 (K : Frag) (c : Str) (sp : Sp) (E : XK) : R2 := fun x y H Q => match x, y with
  | .ref a, .ref b => EqOT2 K c sp E H a b Q
  | x, y => oEq K x y H Q
theorem op_eqT2 (hm : Meth X.K (He.ga X.K c) "__eq__" g) (F : FnR X.prog X.w X.K X.mg X.base (L2.CX X.prog X.w) k g sp) (hr : Room (k + 1) X.A) (hx : ∀ σ, PassesAt (L2.CX X.prog X.w) X σ E) : OpR X (compareOp .Eq) (oEqT2 X.K c sp E) := by
  have h1 : OpR X (compareOp .Eq) (oEqO X.K c sp E) := op_eqO hm F (hr.mono (Nat.le_succ _)) hx
  have h0 : OpR X (compareOp .Eq) (oEq X.K) := o_eq hr.units
  intro pins s σ H x y v u Q I rx ry q
  have two : ∀ a b, x = .ref a → y = .ref b → EqOT2 X.K c sp E H a b Q → wpAny (model X.prog X.w) X.A (compareOp .Eq v u) (EP X pins σ Q) X.xe s := by
    intro a b ex ey q1
    clear q
    subst ex ey
    rcases q1.ex with q | q
    · exact h1 pins s σ H _ _ v u Q I rx ry q
    · cases rx
      cases ry
      exact eqT2_run hm F hr hx I q
  cases x <;> cases y <;> first
    | exact two _ _ rfl rfl q
    | exact h0 pins s σ H _ _ v u Q I rx ry q
end
end S
namespace S
open PySem PySem.Spec PyProof.Rows L2 GenW
section
variable {prog : Program} {w : World} {A : Around} {R : GenEnd} {Y : Protocol} {n : Nat} {s₀ : Shared} {fs : List Frame} {s : Shared} {env : Env}
theorem seg_forLoop {target : Expr} {it : Value} {body : List Stmt}
    (h : wpAny (model prog w) (A.over (.forLoop target it body [] env) fs) (pyNext it) (fun r s' => match r with
      | none => Seg (model prog w) A R Y n s₀ (.block [] env) ((model prog w).den (.block [] env)) fs s'
      | some v => wpAny (model prog w) (A.over (.forLoop target it body [] env) fs) (letOwnedTupleGo target it v) (fun _ s1 => wpAny (model prog w) (A.over (.forLoop target it body [] env) fs) (assign target env v) (fun _ s2 =>
          Seg (model prog w) A R Y n s₀ (.forLoop target it body [] env) ((execs body env).wrap (fun f => match f with
            | .next | .cont => .pure (.again (.forLoop target it body [] env))
            | .brk => .pure (.done .next)
            | .ret v => .pure (.done (.ret v))) (fun e => (do noteFrame e env; theTreesLotGoes e : Sem Unit).wrap (fun _ => .raise e) .raise id id) id id) fs s2)
        (fun x s' => Seg (model prog w) A R Y n s₀ (.forLoop target it body [] env) ((do noteFrame x env; theTreesLotGoes x : Sem Unit).wrap (fun _ => .raise x) .raise id id) fs s') s1)
        (fun x s' => Seg (model prog w) A R Y n s₀ (.forLoop target it body [] env) ((do noteFrame x env; theTreesLotGoes x : Sem Unit).wrap (fun _ => .raise x) .raise id id) fs s') s')
      (fun x s' => Seg (model prog w) A R Y n s₀ (.forLoop target it body [] env) ((do noteFrame x env; theTreesLotGoes x : Sem Unit).wrap (fun _ => .raise x) .raise id id) fs s') s) :
    Seg (model prog w) A R Y n s₀ (.forLoop target it body [] env) ((model prog w).den (.forLoop target it body [] env)) fs s := by
  show Seg _ A R Y n s₀ _ ((forTurn target it body [] env).onRaise (fun x => do noteFrame x env; theTreesLotGoes x)) fs s
  have hx' : ∀ (x : Value) (s' : Shared), Seg (model prog w) A R Y n s₀ (.forLoop target it body [] env) ((do noteFrame x env; theTreesLotGoes x : Sem Unit).wrap (fun _ => .raise x) .raise id id) fs s' → Seg (model prog w) A R Y n s₀ (.forLoop target it body [] env) ((do noteFrame x env; theTreesLotGoes x : Sem Unit).bind fun _ => .raise x) fs s' := fun x s' hx => by
    rw [Sem.bind_eq_wrap]; exact hx
  unfold forTurn
  rw [Sem.onRaise_eq_wrap]
  refine seg_bind_wrap (wpAny_standAt ?_)
  refine seg_bind_wrap (wpAny_onRaise (wpAny_mono h (fun r s' hr => ?_) fun x s' hx => wpAny_standAt (hx' x s' hx)))
  cases r with
  | none => exact seg_again rfl hr
  | some v =>
    refine seg_bind_wrap (wpAny_mono hr (fun _ s1 h1 => ?_) fun x s' hx => hx' x s' hx)
    refine seg_bind_wrap (wpAny_mono h1 (fun _ s2 h2 => ?_) fun x s' hx => hx' x s' hx)
    rw [Sem.bind_eq_wrap', Sem.wrap_wrap]
    rw [Sem.wrap_congr (execs body env) _ _ (K' := fun f => match f with
            | .next | .cont => .pure (.again (.forLoop target it body [] env))
            | .brk => .pure (.done .next)
            | .ret v => .pure (.done (.ret v))) (H' := (fun e => (do noteFrame e env; theTreesLotGoes e : Sem Unit).wrap (fun _ => .raise e) .raise id id))
        (fun f => by cases f <;> rfl)
        (fun e => by first | exact Sem.bind_eq_wrap _ _ | (show (do noteFrame e env; theTreesLotGoes e : Sem Unit).bind (fun _ => .raise e) = _; rw [Sem.bind_eq_wrap]))]
    exact h2
theorem seg_block0 (h : Seg (model prog w) A R Y n s₀ (.block [] env) (.pure (.done .next)) fs s) : Seg (model prog w) A R Y n s₀ (.block [] env) ((model prog w).den (.block [] env)) fs s := h
end
section
variable {X : Cx}
def tGFor (wi : TI) (g : TG) (tb : TGn) : TGn := fun D ys σ H => wi σ H fun J H1 => ∃ W : Nat → Nat → List V → L2.St → Hp → Prop, (∃ m, W 0 m ys σ H1) ∧ ∀ i m ys σ H, W i m ys σ H →
  (J.stop i H ∧ D.nx ys σ H) ∨ (J.go i H ∧ ∃ N : List V → L2.St → Hp → Prop, (∀ ys' σ' H', N ys' σ' H' → ∃ m', m' < m ∧ W (i + 1) m' ys' σ' H') ∧ ∀ x H', J.yld i H x H' → g x σ H' fun σ2 H2 => tb { D with nx := N, ct := N, bk := D.nx } ys σ2 H2)
theorem gs_for {tg iter : Expr} {body : List Stmt} {wi : TI} {g : TG} {tb : TGn} {pos : Pos} (hp : PassesOwn (model X.prog X.w) X.A X.env X.xe) (hc : X.calm = true) (hi : PI X tg iter wi) (hg : PG X tg g) (hb : GSs X body tb)
    (hs : ∀ x, foldedSetIterable iter X.env x = pure x := by intro _; rfl) : GS X (.For tg iter body [] pos) (tGFor wi g tb) := by
  refine ⟨fun A S ip R n ys s₀ c fs K J gd lv s σ H D gc hn k hI ht => ?_⟩
  obtain ⟨acc, cc, r, I⟩ := hI
  rw [exec_For]
  refine seg_bind_wrap (wpAny_standAt ?_)
  refine seg_bind_wrap ?_
  rw [gc.over]
  refine wpAny_mono (hi.run _ s σ H _ I ht) (fun v s1 h1 => ?_) fun x s' hx => k.exc n s₀ x s' hx
  refine seg_bind_wrap (wpAny_of_eq (hs v) ?_)
  refine seg_bind_wrap (wpAny_standAt ?_)
  refine seg_bind_wrap (wpAny_holding ?_)
  rw [gc.over]
  refine wpAny_mono h1 (fun itv s2 h2 => ?_) fun x s' hx => k.exc n s₀ x s' hx
  obtain ⟨it, fp, tn, It, H2, e, I2, T, st2, f2, W, ⟨m0, w0⟩, turn⟩ := h2
  subst e
  refine seg_call fun p => ?_
  have gl := fun (kk : Result → Sem PySem.Fin) => gc_loop (k := kk) (c' := .forLoop tg (.ref it) body [] X.env) (l := lv []) (kp := []) (p := p) gc rfl rfl
  have fpS : ∀ b ∈ fp, b ≠ S := fun b hb e => (f2 b hb).2.2.2.2.2 (S, lstObj acc cc) (List.mem_append_right _ List.mem_cons_self) e.symm
  have stat : ∀ {H' : Hp} {acc' : Array Value} {cc' : Nat}, (∀ b ∈ fp, H' b = none) → ∀ b ∈ fp, FpOk X ((S, lstObj acc' cc') :: ip) H' b := fun hn b hb => by
    obtain ⟨_, q1, q2, q3, q4, q5⟩ := f2 b hb
    refine ⟨hn b hb, q1, q2, q3, q4, fun p hp => ?_⟩
    rcases List.mem_append.mp hp with hp | hp
    · exact q5 p (List.mem_append_left _ hp)
    · rcases List.mem_cons.mp hp with hp | hp
      · rw [hp]; exact (fpS b hb).symm
      · exact q5 p (List.mem_append_right _ (List.mem_cons_of_mem _ hp))
  have loop : ∀ (m i n : Nat) (ys : List V) (s₀ s : Shared) (σ : L2.St) (H : Hp), n + ys.length = sizeLine → W i m ys σ H → GI X S ip ys σ H s → tn i s.heap → (∀ b ∈ fp, H b = none) →
      Seg (model X.prog X.w) A R (GY X S) n s₀ (.forLoop tg (.ref it) body [] X.env) ((model X.prog X.w).den (.forLoop tg (.ref it) body [] X.env))
        (.ret (fun r => ((match r with | .ok f => (.pure f : Sem Flow) | .error e => .raise e).onRaise (cameBack X.env)).wrap K J gd lv) none (gd false) (lv []) c p [] :: fs) s := by
    intro m
    induction m using Nat.strongRecOn with
    | ind m ih =>
      intro i n ys s₀ s σ H hn w hI st fr
      have ee : ∀ (n : Nat) (s₀ : Shared) (x : Value) (s' : Shared), X.xe x s' → Seg (model X.prog X.w) A R (GY X S) n s₀ (.forLoop tg (.ref it) body [] X.env)
          ((do noteFrame x X.env; theTreesLotGoes x : Sem Unit).wrap (fun _ => .raise x) .raise id id)
          (.ret (fun r => ((match r with | .ok f => (.pure f : Sem Flow) | .error e => .raise e).onRaise (cameBack X.env)).wrap K J gd lv) none (gd false) (lv []) c p [] :: fs) s' := fun n s₀ x s' hx => by
        refine seg_wrap ?_
        rw [(gl _).over]
        refine wpAny_bind (wpAny_mono (hp x s' hx) (fun _ s'' hcb => wpAny_theTreesLotGoes ?_) fun y s'' hcb => ?_)
        · exact seg_leaf (.error x) (seg_cameBack gc k hcb)
        · exact seg_leaf (.error y) (seg_cameBack gc k hcb)
      refine seg_forLoop ?_
      rw [(gl _).over]
      obtain ⟨acc1, cc1, r1, I1⟩ := hI
      rcases turn i m ys σ H w with ⟨stop, qn⟩ | ⟨go, N, hN, step⟩
      · refine wpAny_mono (T.done X rfl rfl rfl hc i _ s σ H X.xe I1 (stat fr) st stop) (fun r s4 h4 => ?_) fun x s' hx => ee n s₀ x s' hx
        obtain ⟨hr, I4⟩ := h4
        subst hr
        refine seg_block0 ?_
        exact seg_leaf (.ok .next) (k.ok n ys s₀ s4 .next hn ⟨σ, H, ⟨acc1, cc1, r1, I4⟩, qn⟩)
      · refine wpAny_mono (T.item X rfl rfl rfl hc i _ s σ H X.xe I1 (stat fr) st go) (fun r s4 h4 => ?_) fun x s' hx => ee n s₀ x s' hx
        obtain ⟨u, hr, h4⟩ := h4
        subst hr
        refine wpAny_mono h4 (fun _ s5 h5 => ?_) fun x s' hx => ee n s₀ x s' hx
        obtain ⟨x, H5, I5, r5, y5, st5, fr5⟩ := h5
        have I5' := I5.pinned (stat fr5) (T.obj _ _ st5)
        refine wpAny_mono (hg.run _ s5 σ H5 x u _ I5' r5 (step x H5 y5)) (fun _ s6 h6 => ?_) fun x s' hx => ee n s₀ x s' hx
        obtain ⟨σ6, H6, I6, q6⟩ := h6
        have gl' : GC X S (ip ++ pinsAt fp s5.heap) A (.forLoop tg (.ref it) body [] X.env) (.ret (fun r => ((match r with | .ok f => (.pure f : Sem Flow) | .error e => .raise e).onRaise (cameBack X.env)).wrap K J gd lv) none (gd false) (lv []) c p [] :: fs) id :=
          ⟨gc.pn, fun q hq => (List.mem_append.mp hq).elim (fun z => gc.ip q z) fun z => fpS _ (of_pinsAt z).1, gc.apart, (gl _).over, (gl _).split, (gl _).guard, rfl⟩
        have again : ∀ {ys' : List V} {σ7 : L2.St} {H7 : Hp} {s7 : Shared} {n' : Nat} {s₀' : Shared}, n' + ys'.length = sizeLine → GI X S (ip ++ pinsAt fp s5.heap) ys' σ7 H7 s7 → N ys' σ7 H7 → Seg (model X.prog X.w) A R (GY X S) n' s₀' (.forLoop tg (.ref it) body [] X.env) (.pure (.again (.forLoop tg (.ref it) body [] X.env)))
            (.ret (fun r => ((match r with | .ok f => (.pure f : Sem Flow) | .error e => .raise e).onRaise (cameBack X.env)).wrap K J gd lv) none (gd false) (lv []) c p [] :: fs) s7 := by
          intro ys' σ7 H7 s7 n' s₀' hn' g7 n7
          obtain ⟨m', hm, w7⟩ := hN ys' σ7 H7 n7
          obtain ⟨acc7, cc7, r7, I7⟩ := g7
          have pin : ∀ b ∈ fp, ∀ o, s5.heap.get? b = some o → s7.heap.get? b = some o ∧ H7 b = none := fun b hb o e => by
            have := I7.pin (b, o) (List.mem_append_right _ (List.mem_cons_of_mem _ (List.mem_append_right _ (mem_pinsAt hb e))))
            exact ⟨this.1, this.2.1⟩
          refine seg_again rfl (ih m' hm (i + 1) n' ys' s₀' s7 σ7 H7 hn' w7 ⟨acc7, cc7, r7, I7.pins_of fun q hq => ?_⟩ (T.keep _ _ _ st5 fun b hb o e => (pin b hb o e).1) fun b hb => ?_)
          · rcases List.mem_cons.mp hq with hq | hq
            · rw [hq]; exact I7.pin _ (List.mem_append_right _ List.mem_cons_self)
            · exact I7.pin q (List.mem_append_right _ (List.mem_cons_of_mem _ (List.mem_append_left _ hq)))
          · obtain ⟨o, e, d⟩ := T.obj _ _ st5 b hb
            exact (pin b hb o e).2
        have unpin : ∀ {ys' : List V} {σ7 : L2.St} {H7 : Hp} {s7 : Shared}, GI X S (ip ++ pinsAt fp s5.heap) ys' σ7 H7 s7 → GI X S ip ys' σ7 H7 s7 := by
          rintro ys' σ7 H7 s7 ⟨acc7, cc7, r7, I7⟩
          refine ⟨acc7, cc7, r7, I7.pins_of fun q hq => ?_⟩
          rcases List.mem_cons.mp hq with hq | hq
          · rw [hq]; exact I7.pin _ (List.mem_append_right _ List.mem_cons_self)
          · exact I7.pin q (List.mem_append_right _ (List.mem_cons_of_mem _ (List.mem_append_left _ hq)))
        refine hb.run A S (ip ++ pinsAt fp s5.heap) R n ys s₀ _ _ _ _ id id s6 σ6 H6 { D with nx := N, ct := N, bk := D.nx } gl' hn ⟨fun n' ys' s₀' s7 f hn' hs => ?_, fun n' s₀' x s7 hx => ee n' s₀' x s7 hx⟩ ⟨acc1, cc1, r1, I6⟩ q6
        cases f with
        | next =>
          obtain ⟨σ7, H7, I7, n7⟩ := hs
          exact again hn' I7 n7
        | cont =>
          obtain ⟨σ7, H7, I7, n7⟩ := hs
          exact again hn' I7 n7
        | brk =>
          obtain ⟨σ7, H7, I7, q7⟩ := hs
          exact seg_leaf (.ok .next) (k.ok n' ys' s₀' s7 .next hn' ⟨σ7, H7, unpin I7, q7⟩)
        | ret v =>
          obtain ⟨y, σ7, H7, I7, r7, q7⟩ := hs
          exact seg_leaf (.ok (.ret v)) (k.ok n' ys' s₀' s7 (.ret v) hn' ⟨y, σ7, H7, unpin I7, r7, q7⟩)
  exact loop m0 0 n ys s₀ s2 σ H2 hn w0 ⟨acc, cc, r, I2⟩ st2 fun b hb => (f2 b hb).1
end
end S
namespace S
open PySem PySem.Spec PyProof.Rows L2 GenW
/-- named rests of a generator's body -/
def gstop (t : TGn) : TGn := fun D ys σ H => Stop (fun _ σ H => t D ys σ H) { nx := fun _ _ => True, rt := fun _ _ => True } σ H
theorem gss_stop {X : Cx} {st : List Stmt} {t : TGn} (h : GSs X st t) : GSs X st (gstop t) := ⟨fun A S ip R n ys s₀ c fs K J gd lv s σ H D g hn k hI ht => h.run A S ip R n ys s₀ c fs K J gd lv s σ H D g hn k hI ht.go⟩
theorem gss_one {X : Cx} {st : Stmt} {t : TGn} (h : GS X st t) : GSs X [st] t := by
  have h2 := gss_cons h (gss_nil (X := X))
  exact ⟨fun A S ip R n ys s₀ c fs K J gd lv s σ H D g hn k hI ht => h2.run A S ip R n ys s₀ c fs K J gd lv s σ H D g hn k hI ht⟩
def tGIf (c : TT) (t u : TGn) : TGn := fun D ys σ H => c σ H fun b H1 => bIf b (t D ys σ H1) (u D ys σ H1)
theorem gs_if {X : Cx} {test : Expr} {body orelse : List Stmt} {pos : Pos} {c : TT} {t u : TGn} (hc : PT X test c) (ha : GSs X body t) (hb : GSs X orelse u) : GS X (.If test body orelse pos) (tGIf c t u) := by
  refine ⟨fun A S ip R n ys s₀ cd fs K J gd lv s σ H D g hn k hI ht => ?_⟩
  obtain ⟨acc, cc, r, I⟩ := hI
  show Seg _ _ _ _ _ _ _ ((do standAt pos; if ← isTrue test X.env (eval test X.env) then execs body X.env else execs orelse X.env : Sem Flow).wrap K J gd lv) _ _
  refine seg_bind_wrap (wpAny_standAt ?_)
  refine seg_bind_wrap ?_
  rw [g.over]
  refine wpAny_mono (hc.run _ s σ H _ I ht) (fun b s' hb' => ?_) fun x s' hx => k.exc n s₀ x s' hx
  obtain ⟨H2, I2, q2⟩ := hb'
  cases b with
  | true =>
    rw [if_pos rfl]
    exact ha.run A S ip R n ys s₀ cd fs K J gd lv s' σ H2 D g hn k ⟨acc, cc, r, I2⟩ q2
  | false =>
    rw [if_neg Bool.false_ne_true]
    exact hb.run A S ip R n ys s₀ cd fs K J gd lv s' σ H2 D g hn k ⟨acc, cc, r, I2⟩ q2
/-- what a def that hands out may let out: no StopIteration -/
def EN (K : Frag) (E : XK) : XK := fun cls d H => E cls d H ∧ PySem.W.subIn K cls (.type "StopIteration") = some false
/-- a generator def at an address -/
def GFR (P : Program) (w : World) (K : Frag) (mg : Str → Option Value) (base : Heap) (k : Nat) (f : Addr) (sp : SpG) : Prop :=
  ∀ (A : Around) (outer : List Env) (s : Shared) (H : Hp) (us : List Value) (vs : List V) (Q : List V → Hp → Prop) (E : XK), Room k A → Env0 P w K mg base A outer s H → Vals vs us → sp vs H Q E →
    codeAny (model P w) A (.call (.ref f) ⟨us, []⟩) (fun r s' => match r with | .ok (.ret u) => GMade P w k outer H s [] Q E u s' | _ => False) s
structure GFK (P : Program) (w : World) (K : Frag) (mg : Str → Option Value) (base : Heap) (k : Nat) (f : Addr) (n : Nat) (ks : List Str) (sp : SpG) (gV : List V → List V → List V) : Prop where
  ex : ∃ (fd : FuncData) (ps : List Str) (g : List Value → List Value → List Value), GFn P w K mg base k f fd ps sp ∧ KBn K fd ps n ks g gV
def spDG (sp : SpG) (dvs : List V) : SpG := fun vs H Q E => sp (vs ++ dvs) H Q E
abbrev cxG (P : Program) (w : World) (K : Frag) (mg : Str → Option Value) (base : Heap) (N : List Str) (qual : Str) (scope : Scope) (f : Addr) (cd : Value) (A : Around) (outer : List Env) (s : Shared) (H : Hp) (E : XK) (pn : List (Addr × Obj)) : Cx := gcxOf P w K mg base N qual scope f cd A outer s H E pn
section
variable {P : Program} {w : World} {K : Frag} {mg : Str → Option Value} {base : Heap} {x qual : Str} {params : Arguments} {body : List Stmt} {scope : Scope} {dvs : List V} {kws : List (Str × V)} {f : Addr} {fd : FuncData}
theorem FunD.gok {N ps : List Str} {k : Nat} {sp : SpG} (F : FunD K x qual params body scope dvs kws f fd) (S : GScope N ps scope) (len : ∀ vs H Q E, sp vs H Q E → vs.length = ps.length)
    {t : XK → TGn} (hbody : ∀ (cdv : Value) (A : Around) (outer : List Env) (s : Shared) (H : Hp) (E : XK) (pn : List (Addr × Obj)), Room k (A.deeper (envOfC qual scope s.heap.objs.size f cdv)) → GSs (cxG P w K mg base N qual scope f cdv A outer s H E pn) body (t E))
    (pure : ∀ vs H Q E, sp vs H Q E → t E { nx := fun ys _ H' => Q ys H', rt := fun ys v H' => v = .non ∧ Q ys H' } [] (start N vs) H) : GFn P w K mg base (k + 1) f fd ps sp := by
  obtain ⟨oc, od, dV, kV, doc, pm, an, cdv, ct, osl, rfl, lk, hcd, _, _⟩ := F.ex
  exact gfn_of lk hcd S len fun A outer s H vs Q E pn hr hsp => ⟨t E, hbody cdv A outer s H E pn hr, pure vs H Q E hsp⟩
theorem GFn.raw {k : Nat} {sp : SpG} {ps : List Str} {ds : List Value} {ex : List V} (F : GFn P w K mg base k f fd ps sp) (hb : Binds K fd ps ds) (hd : Vals ex ds) : GFR P w K mg base k f (spDG sp ex) := by
  intro A outer s H us vs Q E hr e0 r h
  have r2 : Vals (vs ++ ex) (us ++ ds) := r.append hd
  have hl2 : (us ++ ds).length = ps.length := by rw [← r2.length]; exact F.len _ _ _ _ h
  exact F.run A outer s H ⟨us, []⟩ (us ++ ds) (vs ++ ex) Q E hr e0 (hb s us (e0.mod.kin.keeps fun b o e => (e0.bs b o e).1) hl2) r2 h
theorem mk_gfn {N ps : List Str} {k : Nat} {sp : SpG} {ex : List V} (F : FunD K x qual params body scope dvs kws f fd) (S : GScope N ps scope) (len : ∀ vs H Q E, sp vs H Q E → vs.length = ps.length) (hb : ∃ ds, Vals ex ds ∧ Binds K fd ps ds)
    {t : XK → TGn} (hbody : ∀ (cdv : Value) (A : Around) (outer : List Env) (s : Shared) (H : Hp) (E : XK) (pn : List (Addr × Obj)), Room k (A.deeper (envOfC qual scope s.heap.objs.size f cdv)) → GSs (cxG P w K mg base N qual scope f cdv A outer s H E pn) body (t E))
    (pure : ∀ vs H Q E, sp vs H Q E → t E { nx := fun ys _ H' => Q ys H', rt := fun ys v H' => v = .non ∧ Q ys H' } [] (start N vs) H) : GFR P w K mg base (k + 1) f (spDG sp ex) := by
  obtain ⟨ds, hv, hb⟩ := hb
  exact GFn.raw (FunD.gok (P := P) (w := w) (mg := mg) (base := base) F S len hbody pure) hb hv
theorem spDG_nil {k : Nat} {sp : SpG} (F : GFR P w K mg base k f (spDG sp [])) : GFR P w K mg base k f sp := fun A outer s H us vs Q E hr e0 r h => F A outer s H us vs Q E hr e0 r (by show sp (vs ++ []) H Q E; rw [List.append_nil]; exact h)
theorem mk_gfnK {N ps ks : List Str} {k n : Nat} {sp : SpG} {gV : List V → List V → List V} (F : FunD K x qual params body scope dvs kws f fd) (S : GScope N ps scope) (len : ∀ vs H Q E, sp vs H Q E → vs.length = ps.length) (hb : ∃ g, KBn K fd ps n ks g gV)
    {t : XK → TGn} (hbody : ∀ (cdv : Value) (A : Around) (outer : List Env) (s : Shared) (H : Hp) (E : XK) (pn : List (Addr × Obj)), Room k (A.deeper (envOfC qual scope s.heap.objs.size f cdv)) → GSs (cxG P w K mg base N qual scope f cdv A outer s H E pn) body (t E))
    (pure : ∀ vs H Q E, sp vs H Q E → t E { nx := fun ys _ H' => Q ys H', rt := fun ys v H' => v = .non ∧ Q ys H' } [] (start N vs) H) : GFK P w K mg base (k + 1) f n ks sp gV := by
  obtain ⟨g, hb⟩ := hb
  exact ⟨fd, ps, g, FunD.gok (P := P) (w := w) (mg := mg) (base := base) F S len hbody pure, hb⟩
end
theorem passG {P : Program} {w : World} {K : Frag} {mg : Str → Option Value} {base : Heap} {N : List Str} {qual : Str} {scope : Scope} {f : Addr} {cd : Value} {A : Around} {outer : List Env} {s : Shared} {H : Hp} {E : XK} {pn : List (Addr × Obj)} :
    ∀ σ, PassesAt (L2.CX P w) (cxG P w K mg base N qual scope f cd A outer s H E pn) σ (EW E σ) := fun σ => passAt takes_gcx σ
theorem ownG {P : Program} {w : World} {K : Frag} {mg : Str → Option Value} {base : Heap} {N : List Str} {qual : Str} {scope : Scope} {f : Addr} {cd : Value} {A : Around} {outer : List Env} {s : Shared} {H : Hp} {E : XK} {pn : List (Addr × Obj)} :
    PassesOwn (model P w) (cxG P w K mg base N qual scope f cd A outer s H E pn).A (cxG P w K mg base N qual scope f cd A outer s H E pn).env (cxG P w K mg base N qual scope f cd A outer s H E pn).xe := owns_gcx
/-! ### generators as values -/
abbrev TGenE := XK → TGen
section
variable {X : Cx} {k n : Nat} {f g : Addr} {sp : SpG} {x c m : Str} {p pos pos' apos : Pos} {e o : Expr} {es : List Expr} {t tk : TA} {ta : TE} {gV : List V → List V → List V} {ks : List Str} {kws : List Keyword}
structure PGenE (X : Cx) (k : Nat) (e : Expr) (tg : TGenE) : Prop where
  run : ∀ E, PGen X k e (tg E) E
theorem run_gfr {pins : List (Addr × Obj)} {σ : L2.St} {H : Hp} {s : Shared} {us : List Value} {vs : List V} {cont : List V → Hp → Prop} {E : XK} {E1 : Value → Shared → Prop} (F : GFR X.prog X.w X.K X.mg X.base k f sp) (hr : Room k X.A)
    (I : Inv X pins σ H s) (r : Vals vs us) (h : sp vs H cont E) :
    wpAny (model X.prog X.w) X.A (call (.ref f) us) (fun u s' => ∃ H1 sc ex, Inv X pins σ H1 sc ∧ ExOk X pins ex ∧ GMade X.prog X.w k X.stack H1 sc ex cont E u s') E1 s := by
  refine wpAny_call (codeAny_mono (F X.A X.stack s H us vs cont E hr I.env0 r h) fun r s' hq => ?_)
  cases r with
  | error e => exact False.elim hq
  | ok fl =>
    cases fl with
    | ret u => exact ⟨H, s, [], I, .nil, hq⟩
    | next => exact False.elim hq
    | brk => exact False.elim hq
    | cont => exact False.elim hq
/-- o.m(), o an instance with slots -/
def tMethGS (K : Frag) (c : Str) (sp : SpG) (ta : TE) : TGenE := fun E σ H cont => ta σ H fun x H1 => match x with
  | .ref a => IsO K H1 c a (sp [.ref a] H1 cont E)
  | _ => False
theorem pgen_methS0 {pl : Sem Bool} (hc : SlX.SCls X.K (He.ga X.K c)) (hm : Meth X.K (He.ga X.K c) m g) (F : GFR X.prog X.w X.K X.mg X.base k g sp) (hr : Room k X.A) (he : PE X o ta)
    (ht : eval (.Call (.Attribute o m apos) [] [] pos) X.env = (do
      let ov ← eval o X.env
      standAt apos.atName
      let (f, first) ← holding [ov] (getMethod ov m pl)
      callWith pos f first (backTo pos (starEach [] X.env)) (backToKw pos (keywordEach [] X.env))) := by rfl) :
    PGenE X k (.Call (.Attribute o m apos) [] [] pos) (tMethGS X.K c sp ta) := by
  refine ⟨fun E => ⟨fun pins s σ H cont I h => ?_⟩⟩
  refine PySem.W.methodCall_KW (pl := pl) (thn (he.run pins s σ H _ I h) fun u s1 ⟨x, H1, I1, rx, q⟩ => ?_) ht
  cases x <;> try exact q.elim
  cases rx
  obtain ⟨⟨dx, vs, hsl⟩, q⟩ := q
  refine SlX.getmethsl_ok I1 hsl hc hm ?_
  exact PySem.W.callWith_K0 (first := [.ref _]) I1.kIn hm.kp (run_gfr (us := [.ref _]) (vs := [.ref _]) F hr I1 (.cons rfl .nil) q)
/-- f(e, ..) -/
def tCallGE (sp : SpG) (t : TA) : TGenE := fun E σ H cont => t σ H fun vs H1 => sp vs H1 cont E
theorem pgen_callR (F : GFR X.prog X.w X.K X.mg X.base k f sp) (hr : Room k X.A) (hm : X.mg x = some (.ref f)) (hk : PySem.W.keepIn X.K (.ref f) = true) (ha : PA X (e :: es) t) (hg : Gl X x := by rfl) (hdb : (x == ("__debug__" : Str)) = false := by decide)
    (he : starEach (e :: es) X.env = (false, eval e X.env) :: starEach es X.env := by rfl) (hpl : (backTo pos' (starEach es X.env)).any (·.1) = false := by rfl) :
    PGenE X k (.Call (.Name x p) (e :: es) [] pos') (tCallGE sp t) := by
  refine ⟨fun E => ⟨fun pins s σ H cont I h => ?_⟩⟩
  refine wpAny_Call_Name_kw (ld_glob I hg hm ?_ hdb)
  refine PySem.W.callWith_K (h₀ := X.base) I.ok.mod.kin hk (thn (ha.run pos' pins s σ H _ I h) fun us s1 ⟨vs, H1, I1, r, q⟩ => ⟨I1.kIn, ?_⟩) he hpl
  exact run_gfr F hr I1 r q
/-- list(g), what it may raise wished for at the caller's slots -/
def tListGE (K : Frag) (tg : TGenE) (E : L2.St → XK) : TE := fun σ H Q => tg (EN K (E σ)) σ H fun out H2 => ∀ p, H2 p = none → Q (.ref p) (upd H2 p (.lst out))
theorem pe_listGE {nm : Str} {tg : TGenE} {E : L2.St → XK} (h : PGenE X k e tg) (hx : ∀ σ, PassesAt (L2.CX X.prog X.w) X σ (E σ)) (hr : Room (k + 3) X.A) (hmg : X.mg nm = none) (hv : bootBuiltins nm = some (.type "list")) (hg : Gl X nm := by rfl) (hnm : nm ≠ "__name__" := by decide) (hdb : (nm == ("__debug__" : Str)) = false := by decide)
    (he : starEach [e] X.env = (false, eval e X.env) :: starEach [] X.env := by rfl) : PE X (.Call (.Name nm p) [e] [] pos) (tListGE X.K tg E) := by
  refine ⟨fun pins s σ H Q I hq => ?_⟩
  refine wpAny_Call_Name_kw (ld_blt I hg hmg hv ?_ hnm hdb)
  refine PyProof.Rows.callWith_type1 ?_ he rfl
  rw [he]
  show wpAny _ _ (spliced ((false, eval e X.env) :: backTo pos (starEach [] X.env))) _ _ s
  refine Calls.spliced_cons (thn ((h.run (EN X.K (E σ))).run pins s σ H _ I hq) fun u s1 ⟨H1, sc, ex, I1, hex, hG⟩ => ?_)
  refine Calls.spliced_nil ?_
  have hsz : sc.heap.objs.size ≤ s1.heap.objs.size := by
    obtain ⟨a, g, c, _, h1, h2, _⟩ := hG
    exact Nat.le_trans h1 (Nat.le_of_lt h2)
  refine call_list_new hr I1.ok.frames hG (fun S s' acc c H' ys q0 q1 q2 hl q3 q4 q5 q6 q7 q8 => ?_) fun e s' g hc => ?_
  · exact ⟨.ref S, upd H' S (.lst ys), I1.drained (Nat.le_trans hsz q0) hl q1 q2 hex q3 q4 q5 q6 q7, rfl, q8 S q7⟩
  · have kin : X.K.In s'.heap := by
      obtain ⟨a, B, H', cls, d, _, fl, _, ub, _⟩ := id hc
      refine I1.ok.mod.kin.keeps fun b o eb => fl.1 b o (ub.keep b o (I1.bs b o eb).1 (I1.bs b o eb).2 fun hm => ?_)
      rcases List.mem_cons.mp (I1.stkSub b hm) with z | z
      · have h1 := Heap.lt_size eb
        have h2 := Nat.le_trans I1.ok.bsz I1.ok.above
        rw [z] at h1
        exact absurd (Nat.lt_of_lt_of_le h1 h2) (Nat.lt_irrefl _)
      · exact I1.ok.nofr eb z
    refine ⟨notStop_of (fun _ _ _ z => z.2) kin hc, hx σ pins H1 sc e _ I1 ?_⟩
    obtain ⟨a, B, H', cls, d, z1, fl, z2, ub, z3, z4, z5, z6⟩ := hc
    exact ⟨a, B, H', cls, d, z1, fl, z2, ub, z3, z4, allBare_setGen z5 rfl, z6.1⟩
end
end S
namespace S
open PySem PySem.Spec PyProof.Rows L2
def GLoopR (D : GEnds) (ys : List V) (g : TG) (tb : TGn) (σ : L2.St) : It → Hp → Prop := fun J H1 => ∃ W : Nat → Nat → List V → L2.St → Hp → Prop, (∃ m, W 0 m ys σ H1) ∧ ∀ i m ys σ H, W i m ys σ H →
  (J.stop i H ∧ D.nx ys σ H) ∨ (J.go i H ∧ ∃ N : List V → L2.St → Hp → Prop, (∀ ys' σ' H', N ys' σ' H' → ∃ m', m' < m ∧ W (i + 1) m' ys' σ' H') ∧ ∀ x H', J.yld i H x H' → g x σ H' fun σ2 H2 => tb { D with nx := N, ct := N, bk := D.nx } ys σ2 H2)
def dGFor (wi : TI) (g : TG) (tb : TGn) : TGn := fun D ys σ H => wi σ H (GLoopR D ys g tb σ)
theorem gs_dfor {X : Cx} {tg iter : Expr} {body : List Stmt} {wi : TI} {g : TG} {tb : TGn} {pos : Pos} (hp : PassesOwn (model X.prog X.w) X.A X.env X.xe) (hc : X.calm = true) (hi : PI X tg iter wi) (hg : PG X tg g) (hb : GSs X body tb)
    (hs : ∀ x, foldedSetIterable iter X.env x = pure x := by intro _; rfl) : GS X (.For tg iter body [] pos) (dGFor wi g tb) := gs_for hp hc hi hg hb hs
section
variable {K : Frag} {a b : Addr} {xs zs : List V} {g : TG} {tb : TGn} {D : GEnds} {ys : List V} {σ : L2.St} {H : Hp}
theorem gfor_list (Pv : Nat → List V → L2.St → Hp → Prop) (h0 : Pv 0 ys σ H) (hl : ∀ i ys σ H, i ≤ xs.length → Pv i ys σ H → SqL K H a xs)
    (hs : ∀ i x ys σ H, xs[i]? = some x → Pv i ys σ H → g x σ H fun σ2 H2 => tb { D with nx := Pv (i + 1), ct := Pv (i + 1), bk := D.nx } ys σ2 H2) (hd : ∀ ys σ H, Pv xs.length ys σ H → D.nx ys σ H) : GLoopR D ys g tb σ (Itl K a) H := by
  refine ⟨fun i m ys σ H => m = xs.length - i ∧ i ≤ xs.length ∧ Pv i ys σ H, ⟨xs.length, by simp, Nat.zero_le _, h0⟩, ?_⟩
  rintro i m ys σ H ⟨rfl, hi, p⟩
  have q := hl i ys σ H hi p
  by_cases hlt : i < xs.length
  · refine .inr ⟨⟨xs, xs[i], q, by simp [hlt]⟩, Pv (i + 1), fun ys' σ' H' p' => ⟨xs.length - (i + 1), by omega, rfl, hlt, p'⟩, fun x H' y => ?_⟩
    obtain ⟨e, y⟩ := y
    subst e
    exact hs i x ys σ _ (y xs q) p
  · have e : i = xs.length := by omega
    subst e
    exact .inl ⟨⟨xs, q, Nat.le_refl _⟩, hd ys σ H p⟩
theorem gfor_tup (Pv : Nat → List V → L2.St → Hp → Prop) (h0 : Pv 0 ys σ H) (hl : ∀ i ys σ H, i ≤ xs.length → Pv i ys σ H → SqT K H a xs)
    (hs : ∀ i x ys σ H, xs[i]? = some x → Pv i ys σ H → g x σ H fun σ2 H2 => tb { D with nx := Pv (i + 1), ct := Pv (i + 1), bk := D.nx } ys σ2 H2) (hd : ∀ ys σ H, Pv xs.length ys σ H → D.nx ys σ H) : GLoopR D ys g tb σ (Itt K a) H := by
  refine ⟨fun i m ys σ H => m = xs.length - i ∧ i ≤ xs.length ∧ Pv i ys σ H, ⟨xs.length, by simp, Nat.zero_le _, h0⟩, ?_⟩
  rintro i m ys σ H ⟨rfl, hi, p⟩
  have q := hl i ys σ H hi p
  by_cases hlt : i < xs.length
  · refine .inr ⟨⟨xs, xs[i], q, by simp [hlt]⟩, Pv (i + 1), fun ys' σ' H' p' => ⟨xs.length - (i + 1), by omega, rfl, hlt, p'⟩, fun x H' y => ?_⟩
    obtain ⟨e, y⟩ := y
    subst e
    exact hs i x ys σ _ (y xs q) p
  · have e : i = xs.length := by omega
    subst e
    exact .inl ⟨⟨xs, q, Nat.le_refl _⟩, hd ys σ H p⟩
theorem gfor_seq (Pv : Nat → List V → L2.St → Hp → Prop) (hx : SqA K H a xs) (h0 : Pv 0 ys σ H) (hl : ∀ i ys σ H', i ≤ xs.length → Pv i ys σ H' → Stay K a H H')
    (hs : ∀ i x ys σ H, xs[i]? = some x → Pv i ys σ H → g x σ H fun σ2 H2 => tb { D with nx := Pv (i + 1), ct := Pv (i + 1), bk := D.nx } ys σ2 H2) (hd : ∀ ys σ H, Pv xs.length ys σ H → D.nx ys σ H) : Walk K H a (GLoopR D ys g tb σ) := by
  rcases hx with hx | hx
  · exact ⟨.inl ⟨⟨xs, hx⟩, gfor_list Pv h0 (fun i ys σ H' hi q => (hl i ys σ H' hi q xs).1 hx) hs hd⟩⟩
  · exact ⟨.inr ⟨⟨xs, hx⟩, gfor_tup Pv h0 (fun i ys σ H' hi q => (hl i ys σ H' hi q xs).2 hx) hs hd⟩⟩
/-- zip of two lists of one length -/
theorem gfor_zip (hl : xs.length = zs.length) (Pv : Nat → List V → L2.St → Hp → Prop) (h0 : Pv 0 ys σ H) (hq : ∀ i ys σ H, Pv i ys σ H → SqL K H a xs ∧ SqL K H b zs)
    (hs : ∀ (i : Nat) (x y : V) (T : Addr) (ys : List V) (σ : L2.St) (H : Hp), xs[i]? = some x → zs[i]? = some y → Pv i ys σ H → H T = none → g (.ref T) σ (upd H T (.tup [x, y])) fun σ2 H2 => tb { D with nx := Pv (i + 1), ct := Pv (i + 1), bk := D.nx } ys σ2 H2)
    (hd : ∀ ys σ H, Pv xs.length ys σ H → D.nx ys σ H) : GLoopR D ys g tb σ (Itz K a b) H := by
  refine ⟨fun i m ys σ H => m = xs.length - i ∧ i ≤ xs.length ∧ Pv i ys σ H, ⟨xs.length, rfl, Nat.zero_le _, h0⟩, ?_⟩
  rintro i m ys σ H ⟨rfl, hi, p⟩
  obtain ⟨qx, qy⟩ := hq i ys σ H p
  by_cases hlt : i < xs.length
  · have hx : xs[i]? = some xs[i] := List.getElem?_eq_getElem hlt
    have hlt2 : i < zs.length := by omega
    have hy : zs[i]? = some zs[i] := List.getElem?_eq_getElem hlt2
    refine .inr ⟨⟨xs, zs, _, _, qx, qy, hx, hy⟩, Pv (i + 1), fun ys' σ' H' p' => ⟨xs.length - (i + 1), by omega, rfl, hlt, p'⟩, fun v H' y => ?_⟩
    obtain ⟨T, x', y', rfl, hT, rfl, f1, f2⟩ := y
    exact hs i x' y' T ys σ H (f1 xs qx) (f2 zs qy) p hT
  · have e : i = xs.length := by omega
    subst e
    exact .inl ⟨⟨xs, zs, qx, qy, Or.inl (Nat.le_refl _)⟩, hd ys σ H p⟩
/-- one for zips outside of generators -/
theorem for_zip {tb : TS} {D : L2.Ends} (hl : xs.length = zs.length) (Pv : Nat → L2.St → Hp → Prop) (h0 : Pv 0 σ H) (hq : ∀ i σ H, Pv i σ H → SqL K H a xs ∧ SqL K H b zs)
    (hs : ∀ (i : Nat) (x y : V) (T : Addr) (σ : L2.St) (H : Hp), xs[i]? = some x → zs[i]? = some y → Pv i σ H → H T = none → g (.ref T) σ (upd H T (.tup [x, y])) fun σ2 H2 => tb { D with nx := Pv (i + 1), ct := Pv (i + 1), bk := D.nx } σ2 H2) (hd : ∀ σ H, Pv xs.length σ H → D.nx σ H) : LoopR D g tb σ (Itz K a b) H :=
  RZ.for_zipL hl Pv h0 hq hs hd
end
/-! ### a < b < c < d as a test -/
def dChain3T (r r' r'' : R2) (ta tb tc td : TE) : TT := fun σ H Q => ta σ H fun x H1 => tb σ H1 fun y H2 => r x y H2 (isB fun k H3 => bIf k (tc σ H3 fun z H4 => r' y z H4 (isB fun k2 H5 => bIf k2 (td σ H5 fun w' H6 => r'' z w' H6 (isB Q)) (Q false H5))) (Q false H3))
theorem pt_chain3 {X : Cx} {op op' op'' : CmpOp} {a b c d : Expr} {r r' r'' : R2} {ta tb tc td : TE} {pos : Pos} (ho : OpR X (compareOp op) r) (ho' : OpR X (compareOp op') r') (ho'' : OpR X (compareOp op'') r'') (ha : PE X a ta) (hb : PE X b tb) (hc : PE X c tc) (hd : PE X d td)
    (hm : lastMarks [op, op', op''] [b, c, d] = false := by with_unfolding_all rfl) : PT X (.Compare a [op, op', op''] [b, c, d] pos) (dChain3T r r' r'' ta tb tc td) := by
  refine ⟨fun pins s σ H Q I h => ?_⟩
  refine isTrue_chain (thn (ha.run pins s σ H _ I h) fun v s1 ⟨x, H1, I1, r1, q1⟩ => test_link (thn (hb.run pins s1 σ H1 _ I1 q1) fun u s2 ⟨y, H2, I2, r2, q2⟩ =>
    thn (ho pins s2 σ H2 x y v u _ I2 r1 r2 q2) fun d s3 ⟨z, H3, I3, r3, q3⟩ => ?_)) hm
  obtain ⟨k, e, q3⟩ := isB_ex q3
  subst e
  cases r3
  refine wpAny_truthy_bool ?_
  cases k with
  | false => exact ite_ff ⟨H3, I3, q3⟩
  | true =>
    refine ite_tt (test_link (thn (hc.run pins s3 σ H3 _ I3 q3) fun w' s4 ⟨z', H4, I4, r4, q4⟩ => thn (ho' pins s4 σ H4 y z' u w' _ I4 r2 r4 q4) fun d' s5 ⟨z2, H5, I5, r5, q5⟩ => ?_))
    obtain ⟨k2, e2, q5⟩ := isB_ex q5
    subst e2
    cases r5
    refine wpAny_truthy_bool ?_
    cases k2 with
    | false => exact ite_ff ⟨H5, I5, q5⟩
    | true =>
      refine ite_tt (test_last (thn (hd.run pins s5 σ H5 _ I5 q5) fun w2 s6 ⟨z6, H6, I6, r6, q6⟩ => thn (ho'' pins s6 σ H6 z' z6 w' w2 _ I6 r4 r6 q6) fun d2 s7 ⟨z7, H7, I7, r7, q7⟩ => ?_))
      obtain ⟨k3, e3, q7⟩ := isB_ex q7
      subst e3
      cases r7
      exact wpAny_truthy_bool ⟨H7, I7, q7⟩
end S
namespace S
open PySem PySem.Spec PyProof.Rows L2
set_option maxRecDepth 8000 in
theorem extend_tupA (l : Addr) (items : Array Value) (n : Nat) (b : Addr) (od : Option Addr) (osl : Array (Option Value)) (items2 : Array Value) (n2 : Nat) (hs0 : ¬(!items.isEmpty && Builtin.List.listTooLong (items.size + items2.size)) = true) (hs1 : items.size ≤ sizeLine) (hs2 : items.size + items2.size ≤ sizeLine + 1) :
    Meets (Builtin.«list.extend» ⟨[.ref l, .ref b], []⟩) (fun _ R s => s.heap.get? l = some { cls := .type "list", dict := none, data := .seq items n, slots := #[] } ∧ s.heap.get? b = some { cls := .type "tuple", dict := od, data := .seq items2 n2, slots := osl } ∧ R (.ok (.ret Value.none)) { s with heap := s.heap.update l (Obj.mapSeq fun x => x ++ items2), toks := s.toks }) :=
  .of_wp fun prog w A R s h => by
    obtain ⟨hp, g, d, tk, os⟩ := s; obtain ⟨hl, hb, h⟩ := h; have f1 := AutoSeq1.idx_int; have f2 := AutoSeq1.sub_tuple_tuple; have f3 := AutoSeq1.sub_list_list; have f4 := AutoSeq1.sub_tuple_list; have f5 := AutoSeq1.sub_list_tuple;
    have hz' : (items ++ items2).size ≤ sizeLine + 1 := by rw [Array.size_append]; exact hs2
    wp_walk using (wpAny_updateSeq hl rfl (hz := hs1) (_hz' := hz')), AutoSeq1.wpAny_loadPart' hl, AutoSeq1.wpAny_loadPart' hb; exact ⟨_, rfl, h⟩
def rExtendT (K : Frag) : V → List V → Hp → VK → Prop := fun x vs H Q => ∃ l b xs zs, x = .ref l ∧ vs = [.ref b] ∧ H l = some (.lst xs) ∧ SqT K H b zs ∧ xs.length + zs.length ≤ sizeLine ∧ Q .non (upd H l (.lst (xs ++ zs)))
theorem mt_extendT {X : Cx} : MtR X "list.extend" (rExtendT X.K) := by
  intro pins s σ H x vs v us Q I rx rv h
  obtain ⟨l, b, xs, zs, rfl, rfl, hH, hB, hz, q⟩ := h
  cases rx
  obtain ⟨u, rfl, ru⟩ := rv.one
  cases ru
  obtain ⟨z, its, n, r, hl, e⟩ := I.lstM hH
  obtain ⟨its2, r2, ⟨o2, e2, hc2, n2, hd2⟩, z2⟩ := I.tuple hB
  obtain ⟨oc, od, odt, osl⟩ := o2
  simp only at hc2 hd2
  subst hc2; subst hd2
  have l1 := r.length
  have l2 := r2.length
  have hsz : its.toArray.size + its2.toArray.size ≤ sizeLine := by rw [List.size_toArray, List.size_toArray]; omega
  have hlong : ¬ (!its.toArray.isEmpty && Builtin.List.listTooLong (its.toArray.size + its2.toArray.size)) = true := by
    rw [notLongL hsz, Bool.and_false]
    exact Bool.false_ne_true
  refine call_meets F.slot_list_extend ⟨_, e, rfl⟩ F.entry_list_extend (F.args_list_extend_2 _ _)
    (extend_tupA l its.toArray n b od osl its2.toArray n2 hlong (by rw [List.size_toArray]; omega) (by omega)) ⟨e, e2, ?_⟩
  refine ⟨.non, _, I.lset (its' := its ++ its2) hH e (by simp) (r.append r2) ?_, rfl, q⟩
  rw [List.length_append]
  omega
/-- the sequence at b is put behind -/
structure ExtA (K : Frag) (H : Hp) (b : Addr) (n : Nat) (k : List V → Prop) : Prop where
  ex : ∃ zs, (H b = some (.lst zs) ∨ SqT K H b zs) ∧ n + zs.length ≤ sizeLine ∧ k zs
theorem ExtA.l {K : Frag} {H : Hp} {b : Addr} {n : Nat} {k : List V → Prop} {zs : List V} (h : H b = some (.lst zs)) (hz : n + zs.length ≤ sizeLine) (q : k zs) : ExtA K H b n k := ⟨zs, .inl h, hz, q⟩
theorem ExtA.t {K : Frag} {H : Hp} {b : Addr} {n : Nat} {k : List V → Prop} {zs : List V} (h : SqT K H b zs) (hz : n + zs.length ≤ sizeLine) (q : k zs) : ExtA K H b n k := ⟨zs, .inr h, hz, q⟩
def mExtA (K : Frag) : M2 := mL fun xs vs H k => match vs with
  | [.ref b] => ExtA K H b xs.length fun zs => k .non (xs ++ zs)
  | _ => False
theorem m_extA {X : Cx} : MtR X "list.extend" (mExtA X.K) := by
  intro pins s σ H x vs v us Q I rx rv q
  cases x <;> try exact q.elim
  match vs, q with
  | [.ref b], ⟨⟨xs, h, ⟨zs, h2, hz, q⟩⟩⟩ =>
    rcases h2 with h2 | h2
    · exact (MtR.of mt_extend fun _ _ _ _ q => q) pins s σ H _ _ v us Q I rx rv ⟨_, b, xs, zs, rfl, rfl, h, h2, hz, q⟩
    · exact mt_extendT pins s σ H _ _ v us Q I rx rv ⟨_, b, xs, zs, rfl, rfl, h, h2, hz, q⟩
/-! ### set(a list of numbers) -/
section
variable {P : Program} {w : World} {A : Around} {E : Value → Shared → Prop} {s : Shared}
/-- what the set holds after i items -/
def GotI (ns : List Int) (i : Nat) (S : Int → Bool) (n : Nat) : Prop := (∀ k, S k = true ↔ k ∈ ns.take i) ∧ n ≤ i
theorem gotI_succ {ns : List Int} {i : Nat} {S : Int → Bool} {n : Nat} {k : Int} (g : GotI ns i S n) (h : ns[i]? = some k) : GotI ns (i + 1) (fun j => S j || decide (j = k)) (if S k = true then n else n + 1) := by
  refine ⟨fun j => ?_, ?_⟩
  · rw [List.take_succ, h, List.mem_append, ← g.1 j, Bool.or_eq_true, decide_eq_true_eq]
    show _ ↔ _ ∨ j ∈ [k]
    rw [List.mem_singleton]
  · have := g.2
    split <;> omega
theorem set_update_ints {I : Addr} {fp wr : List Addr} {G : Array GenState → Array GenState → Prop} {n : Nat} {Pv : Nat → Value → Prop} {St : Nat → Shared → Prop} {R : Result → Shared → Prop}
    (W : WalksS P w A.in1 I fp wr G n Pv St) (S : Addr) (hSf : S ∉ fp) (ns : List Int) (hn : n = ns.length) (hfew : ns.length + 1 < scanBound) (hval : ∀ i v, Pv i v → ∃ k t, ns[i]? = some k ∧ v = .int k t)
    (h0 : Heap) (hS0 : h0.get? S = none) (hw0 : ∀ b ∈ wr, h0.get? b = none) :
    ∀ (k i : Nat) (s : Shared), n - i = k → i ≤ n → St i s → (∀ b o, h0.get? b = some o → s.heap.get? b = some o) → (∃ T m, SetR w s.heap S T m ∧ GotI ns i T m) →
      (∀ s' T m, Moved (S :: wr) G s s' → SetR w s'.heap S T m → GotI ns n T m → (∀ b o, h0.get? b = some o → s'.heap.get? b = some o) → R (.ok (.ret .none)) s') →
      codeAny (model P w) A (.builtin "set.update.loop" ⟨[.ref S, .ref I], []⟩) R s := by
  have hSw : S ∉ wr := fun h => hSf (W.sub _ h)
  have hsub : ∀ b ∈ wr, b ∈ S :: wr := fun b hb => List.mem_cons_of_mem _ hb
  have keepM : ∀ {s s' : Shared}, Moved wr G s s' → (∀ b o, h0.get? b = some o → s.heap.get? b = some o) → ∀ b o, h0.get? b = some o → s'.heap.get? b = some o := fun hm hkp b o e =>
    hm.heap b o (fun hb => by rw [hw0 b hb] at e; cases e) (hkp b o e)
  intro k
  induction k with
  | zero =>
    intro i s hk' hi hst hkp ⟨T, m, hS, g⟩ hR
    have hin : i = n := by omega
    subst hin
    refine codeAny_builtin F.entry_set_update_loop ?_
    rw [Around.under_plainId F.plain_set_update_loop _]
    show wpAny _ A.in1 (pyNext (.ref I) >>= _) _ _ s
    refine wpAny_bind (W.done s _ _ hst fun s' hm => ?_)
    show wpAny _ A.in1 (ret Value.none) _ _ s'
    have hkp' := keepM hm hkp
    exact wpAny_pure (hR s' T m (hm.mono hsub) (hS.at fun o e => hm.heap S o hSw e) g hkp')
  | succ k ih =>
    intro i s hk' hi hst hkp ⟨T, m, hS, g⟩ hR
    have hlt : i < n := by omega
    refine codeAny_builtin F.entry_set_update_loop ?_
    rw [Around.under_plainId F.plain_set_update_loop _]
    show wpAny _ A.in1 (pyNext (.ref I) >>= _) _ _ s
    refine wpAny_bind (W.item i s _ _ hlt hst fun v s' hP hst' hm => ?_)
    obtain ⟨x, t, hx, rfl⟩ := hval i v hP
    have hkp' := keepM hm hkp
    have hS' : SetR w s'.heap S T m := hS.at fun o e => hm.heap S o hSw e
    show wpAny _ A.in1 (holding [Value.int x t] (setAdd S (.int x t)) >>= _) _ _ s'
    refine wpAny_bind (wpAny_holding ?_)
    unfold setAdd
    refine wpAny_holding ?_
    refine wpAny_bind ((intKind P w).pyHash (k := x) (intKind_is _ _ _ _) ?_)
    refine setR_add_hashed (s := { s' with toks := s'.toks + 1 }) hS' (by have := g.2; omega) fun h' hsb hS2 => ?_
    have g' := gotI_succ g hx
    have hkp2 : ∀ b o, h0.get? b = some o → h'.get? b = some o := fun b o e => (hsb.2 b (fun z => by rw [z, hS0] at e; cases e)).trans (hkp' b o e)
    refine wpAny_pure ⟨plainId_quiet F.plain_set_update_loop _, ih (i + 1) _ (by omega) hlt (W.frame _ s' _ _ hst' (Nat.le_succ _) fun b hb o e => ?_) hkp2 ⟨_, _, hS2, g'⟩ fun s'' T2 m2 hm'' hS'' g'' hkp'' => ?_⟩
    · rw [hsb.2 b (fun h : b = S => hSf (by rw [← h]; exact hb))]; exact e
    · refine hR s'' T2 m2 (Moved.trans W.gtrans ((hm.mono hsub).then_heap (Nat.le_succ _) fun b o hb e => ?_) hm'') hS'' g'' hkp''
      rw [hsb.2 b (fun h : b = S => hb (by rw [h]; exact List.mem_cons_self))]; exact e
set_option maxHeartbeats 8000000 in
theorem call_set_ints {l : Addr} {items : Array Value} (ns : List Int) {Q : Value → Shared → Prop} (hh : A.handled = none) (hl : s.heap.IsList l items) (hit : IntsAre items.toList ns) (hfew : ns.length + 1 < scanBound)
    (h : ∀ (h' : Heap) (tk : Nat) T m, SetR w h' s.heap.objs.size T m → GotI ns ns.length T m → (∀ b o, s.heap.get? b = some o → h'.get? b = some o) → Q (.ref s.heap.objs.size) { s with heap := h', toks := tk }) :
    wpAny (model P w) A (call (.type "set") [.ref l]) Q E s := by
  have hisz : items.size = ns.length := by
    have q := IntsAre.length hit
    rw [Array.length_toList] at q
    exact q
  obtain ⟨c, tl, hmro⟩ := F.called_set.mro
  have hmade := F.called_set.made
  have hsub := F.called_set.sub
  refine wpAny_call (codeAny_of_tree ?_)
  show wpAny _ _ (callAny (.type "set") _) _ _ _
  refine wpAny_pure ⟨Code.quiet_builtin _ (by decide +kernel), codeAny_builtin F.entry_type_call ?_⟩
  rw [Around.under_plain (weight_type_call_type "set" [.ref l] []) rfl]
  have h1 := F.called_set.notType
  have h2 := F.called_set.canCreate
  have hct := F.typeCall_set_1 (.ref l)
  repeat (any_goals (first | assumption | wp_step))

  refine codeAny_mono (code_set_led1 (.ref l) (E := E) (Q₁ := fun obj s₁ => obj = .ref s.heap.objs.size ∧ s₁ = { s with heap := s.heap.push { cls := .type "set", dict := none, data := .set #[] 0 (.fresh 0 0 (!w.params.followText "set-order")) } }) ⟨rfl, rfl⟩) fun r s₁ hr => ?_
  cases r with
  | error e => exact hr
  | ok fl =>
    cases fl with
    | ret obj =>
      obtain ⟨rfl, rfl⟩ := hr
      have hS : (s.heap.push { cls := .type "set", dict := none, data := .set #[] 0 (.fresh 0 0 (!w.params.followText "set-order")) }).get? s.heap.objs.size = some { cls := .type "set", dict := none, data := .set #[] 0 (.fresh 0 0 (!w.params.followText "set-order")) } := Heap.get?_push_size _ rfl
      have hT : Shared.TypeIs { s with heap := s.heap.push { cls := .type "set", dict := none, data := .set #[] 0 (.fresh 0 0 (!w.params.followText "set-order")) } } (.ref s.heap.objs.size) "set" := ⟨_, hS, rfl⟩
      have hli := F.called_set.init.lookup
      have hbi := F.called_set.init.bind (.ref s.heap.objs.size)
      repeat (any_goals (first | assumption | wp_step))

      refine codeAny_mono (codeAny_call_builtin (R := wants (fun r s₂ => r = .none ∧ ∃ h' tk T m, s₂ = { s with heap := h', toks := tk } ∧ SetR w h' s.heap.objs.size T m ∧ GotI ns ns.length T m ∧
          (∀ b o, s.heap.get? b = some o → h'.get? b = some o)) E) F.called_set.init.plain F.entry_set_init (check_set_init_1 hT ?_)) fun r₂ s₂ hr₂ => ?_
      · obtain ⟨ol, hol, hcl, nl, hdl⟩ := hl
        obtain ⟨ocls, odict, odata, oslots⟩ := ol
        simp only at hcl hdl
        subst hcl; subst hdl
        have hol' : (s.heap.push { cls := .type "set", dict := none, data := .set #[] 0 (.fresh 0 0 (!w.params.followText "set-order")) }).get? l = some { cls := .type "list", dict := odict, data := .seq items nl, slots := oslots } := Heap.get?_push_of_some _ hol
        have hsls := F.sub_list_set
        have hslf := F.sub_list_frozenset
        have hne : (Value.type "list" == Value.type "dict") = false := by decide
        have hl1 : (s.heap.push { cls := .type "set", dict := none, data := .set #[] 0 (.fresh 0 0 (!w.params.followText "set-order")) }).IsList l items := ⟨_, hol', rfl, nl, rfl⟩
        unfold Builtin.«set.__init__» noKeywords Builtin.Frozenset.updateFrom
        generalize hPI : pyIter = PI
        wp_walk
        subst hPI

        refine wpAny_pyIter_list hl1 ?_
        refine wpAny_bind (wpAny_runValue ?_)
        have hlS : l < s.heap.objs.size := Heap.lt_size hol
        have hh3 : A.in1.in1.in1.handled = none := by simp [hh]
        have hneI : l ≠ (s.heap.push { cls := .type "set", dict := none, data := .set #[] 0 (.fresh 0 0 (!w.params.followText "set-order")) }).objs.size := by
          rw [Heap.size_push]; exact Nat.ne_of_lt (Nat.lt_succ_of_lt hlS)
        have hSf : s.heap.objs.size ∉ [(s.heap.push { cls := .type "set", dict := none, data := .set #[] 0 (.fresh 0 0 (!w.params.followText "set-order")) }).objs.size, l] := by
          rw [Heap.size_push]; simp only [List.mem_cons, List.mem_singleton, List.not_mem_nil, or_false, not_or]
          exact ⟨Nat.ne_of_lt (Nat.lt_succ_self _), Nat.ne_of_gt hlS⟩
        have hval : ∀ (i : Nat) (v : Value), items[i]? = some v → ∃ k t, ns[i]? = some k ∧ v = .int k t := fun i v hv => by
          have q : items.toList[i]? = some v := by rw [Array.getElem?_toList]; exact hv
          obtain ⟨k, t, e1, e2⟩ := IntsAre.at hit i v q
          exact ⟨k, t, e2, e1⟩
        have none_of : ∀ b, s.heap.objs.size ≤ b → s.heap.get? b = none := fun b hb => by
          cases q : s.heap.get? b with
          | none => rfl
          | some o => exact absurd (Nat.lt_of_lt_of_le (Heap.lt_size q) hb) (Nat.lt_irrefl _)
        refine set_update_ints ((Walks.list hh3 _ l hneI items).toS) s.heap.objs.size
          hSf ns hisz hfew hval s.heap (none_of _ (Nat.le_refl _)) (fun b hb => none_of b (by
            rw [List.mem_singleton.mp hb, Heap.size_push]
            exact Nat.le_succ _)) (items.size - 0) 0 _ (by omega) (Nat.zero_le _)
          ⟨⟨_, Heap.get?_push_size _ rfl, rfl, rfl⟩, (hl1.push _)⟩ (fun b o e => Heap.get?_push_of_some _ (Heap.get?_push_of_some _ e)) ?hS0 ?hR
        case hS0 =>
          exact ⟨_, 0, (setR_fresh (h := s.heap) w).at fun o e => Heap.get?_push_of_some _ e, fun k => by simp, Nat.le_refl _⟩
        case hR =>
          intro s' T m hm hS' g' hkp
          obtain ⟨h', g2, d', tk', os'⟩ := s'
          have eg : g2 = s.gens := hm.gens
          have ed : d' = s.drawn := hm.drawn
          have eo : os' = s.os := hm.os
          subst eg; subst ed; subst eo
          show wpAny _ _ _ _ _ _
          refine wpAny_pure ?_
          show wpAny _ _ (ret Value.none) _ _ _
          rw [hisz] at g'
          exact wpAny_pure ⟨rfl, h', tk', T, m, rfl, hS', g', hkp⟩

      · cases r₂ with
        | error e => exact hr₂
        | ok fl₂ =>
          cases fl₂ with
          | ret r =>
            obtain ⟨rfl, h', tk, T, m, rfl, hS', g', hk'⟩ := hr₂
            repeat (any_goals (first | assumption | wp_step))
            exact h _ _ _ _ hS' g' hk'
          | _ => exact hr₂.elim
    | _ => exact hr.elim
end
section
variable {X : Cx}
theorem nodup_len {α : Type} [DecidableEq α] : ∀ (L D : List α), L.Nodup → (∀ z ∈ L, z ∈ D) → L.length ≤ D.length
  | [], _, _, _ => Nat.zero_le _
  | x :: L, D, hn, hD => by
    have hx := hD x (List.mem_cons_self ..)
    obtain ⟨h1, h2⟩ := List.nodup_cons.mp hn
    have := nodup_len L (D.erase x) h2 fun z hz => (List.mem_erase_of_ne (fun e => h1 (by rw [← e]; exact hz))).mpr (hD z (List.mem_cons_of_mem _ hz))
    rw [List.length_erase_of_mem hx] at this
    have hp : 0 < D.length := List.length_pos_of_mem hx
    rw [List.length_cons]; omega
theorem setR_le {w : World} {h : Heap} {a : Addr} {T : Int → Bool} {m : Nat} (R : SetR w h a T m) {D : List Int} (hD : ∀ k, T k = true → k ∈ D) : m ≤ D.length := by
  obtain ⟨o, es, ep, t, _, _, _, _, nd, hm, _, _, hn, _⟩ := R
  have := nodup_len (es.toList.map keyOf) D nd fun z hz => hD z ((hm z).mpr hz)
  rw [List.length_map, Array.length_toList] at this
  omega
def rSetI (K : Frag) (w : World) : List V → Hp → VK → Prop := fun xs H Q => ∃ (l : Addr) (ns D : List Int), xs = [V.ref l] ∧ SqL K H l (ns.map V.int) ∧ ns.length + 1 < scanBound ∧ (∀ z ∈ ns, z ∈ D) ∧ ∀ a T m, H a = none → (∀ k, T k = true ↔ k ∈ ns) → m ≤ D.length → Q (.ref a) (upd H a (SetO w a T m))
theorem cr_setI (hc : X.calm = true) : CallR X (.type "set") (rSetI X.K X.w) := by
  intro pins s σ H xs us Q I r h
  obtain ⟨l, ns, D, rfl, hl, hf, hD, q⟩ := h
  rw [Vals.ref1 r]
  obtain ⟨its, rv, pl, hz⟩ := I.list hl
  refine call_set_ints (P := X.prog) (w := X.w) ns (I.ok.hd hc) pl.isList (by simpa using ints_of_vals rv) hf fun h' tk T m R g k => ?_
  have hT : ∀ k, T k = true ↔ k ∈ ns := fun k => by have := g.1 k; rwa [List.take_length] at this
  exact ⟨.ref s.heap.objs.size, upd H s.heap.objs.size (SetO X.w s.heap.objs.size T m), I.laid (t' := tk) k (Nat.le_refl _) (setO_new R), rfl, q _ T m (I.hok.fresh (Nat.le_refl _)) hT (setR_le R fun k hk => hD k ((hT k).mp hk))⟩
/-- sorted(set(xs)) of a list of numbers -/
structure SSet (K : Frag) (H : Hp) (p : Addr) (Q : V → Hp → Prop) : Prop where
  ex : ∃ ns D : List Int, SqL K H p (ns.map V.int) ∧ ns.length + 1 < scanBound ∧ D.length < 64 ∧ (∀ z ∈ ns, z ∈ D) ∧ ∀ (rs : List Int) (q : Addr) (H' : Hp), rs.Pairwise (· < ·) → (∀ k, k ∈ rs ↔ k ∈ ns) → Same H H' → H q = none → H' q = some (.lst (rs.map V.int)) → Q (.ref q) H'
def dSSet (K : Frag) (te : TE) : TE := fun σ H Q => te σ H fun x H1 => match x with
  | .ref p => SSet K H1 p Q
  | _ => False
/-- a reading closed under weaker wishes -/
def upE (te : TE) : TE := fun σ H Q => ∃ C : VK, te σ H C ∧ ∀ x H1, C x H1 → Q x H1
theorem pe_up {e : Expr} {te : TE} (he : PE X e te) : PE X e (upE te) := ⟨fun pins s σ H Q I h => by
  obtain ⟨C, h1, h2⟩ := h
  exact thn (he.run pins s σ H C I h1) fun v s1 ⟨x, H1, I1, r1, q1⟩ => ⟨x, H1, I1, r1, h2 x H1 q1⟩⟩
theorem pe_sset {e : Expr} {te : TE} {p1 p2 pos1 pos2 : Pos} (hc : X.calm = true) (h1 : X.mg "sorted" = none) (h2 : X.mg "set" = none) (b1 : bootBuiltins "sorted" = some (.builtin "sorted")) (b2 : bootBuiltins "set" = some (.type "set")) (he : PE X e te) (g1 : Gl X "sorted" := by rfl) (g2 : Gl X "set" := by rfl)
    (hs : starEach [.Call (.Name "set" p2) [e] [] pos2] X.env = (false, eval (.Call (.Name "set" p2) [e] [] pos2) X.env) :: starEach [] X.env := by rfl) (hs2 : starEach [e] X.env = (false, eval e X.env) :: starEach [] X.env := by rfl) :
    PE X (.Call (.Name "sorted" p1) [.Call (.Name "set" p2) [e] [] pos2] [] pos1) (dSSet X.K te) := by
  have hi : PE X (.Call (.Name "set" p2) [e] [] pos2) (tCB (rSetI X.K X.w) (tCons (upE te) tNil)) := pe_ct (cr_setI hc) h2 b2 (pa_cons (pe_up he) pa_nil (hs := hs2)) g2 (by decide) (by decide) hs2 rfl
  have ho : PE X (.Call (.Name "sorted" p1) [.Call (.Name "set" p2) [e] [] pos2] [] pos1) (tCB (rSortedSet X.w) (tCons (tCB (rSetI X.K X.w) (tCons (upE te) tNil)) tNil)) := pe_cb (cr_sortedSet hc) h1 b1 (pa_cons hi pa_nil (hs := hs)) g1 (by decide) (by decide) hs rfl
  refine PE.of ho fun σ H Q q => ?_
  refine ⟨_, q, fun x H1 q1 => ?_⟩
  cases x <;> try exact q1.elim
  obtain ⟨ns, D, hl, hf, hD, hsub, q2⟩ := q1.ex
  refine ⟨_, ns, D, rfl, hl, hf, hsub, fun a T m na hT hm => ?_⟩
  refine ⟨a, T, m, rfl, upd_same, by omega, fun rs p hp hmem _ np => ?_⟩
  have e1 := same_new (o := SetO X.w a T m) na
  refine q2 rs p _ hp (fun k => (hmem k).trans (hT k)) (e1.trans (same_new np)) ?_ upd_same
  cases e : H1 p with
  | none => rfl
  | some o => rw [e1 _ _ e] at np; cases np
end
end S
namespace S
open PySem PySem.Spec PyProof.Rows L2
def dTestO (K : Frag) (c : Str) (sp : Sp) (E : XK) (ta : TE) : TT := fun σ H Q => ta σ H fun x H1 => match x with
  | .ref p => IsO K H1 c p (sp [.ref p] H1 (isB Q) E)
  | x => dTru K x H1 fun b => Q b H1
theorem pt_ofO {X : Cx} {a : Expr} {ta : TE} {c : Str} {g : Addr} {k : Nat} {sp : Sp} {E : XK} (hm : Meth X.K (He.ga X.K c) "__bool__" g) (F : FnR X.prog X.w X.K X.mg X.base (L2.CX X.prog X.w) k g sp) (hr : Room k X.A) (hx : ∀ σ, PassesAt (L2.CX X.prog X.w) X σ E)
    (ha : PE X a ta) (he : ∀ whole, isTrue a X.env whole = (do let v ← whole; standAt a.pos; holding [v] (truthy v)) := by intro _; rfl) : PT X a (dTestO X.K c sp E ta) := by
  refine ⟨fun pins s σ H Q I h => ?_⟩
  refine isTrue_plain (thn (ha.run pins s σ H _ I h) fun v s1 ⟨x, H1, I1, r1, q1⟩ => ?_) (he _)
  cases x with
  | bl b =>
    exact tru_ok pins s1 σ H1 (.bl b) v Q I1 r1 ⟨b, rfl, q1⟩
  | non =>
    exact tru_ok pins s1 σ H1 .non v Q I1 r1 ⟨false, rfl, q1⟩
  | int i =>
    refine tru_ok pins s1 σ H1 (.int i) v Q I1 r1 ⟨_, rfl, ?_⟩
    have e : (i != 0) = decide (i ≠ 0) := by by_cases h : i = 0 <;> simp [h]
    rw [e]; exact q1
  | str z =>
    refine tru_ok pins s1 σ H1 (.str z) v Q I1 r1 ⟨_, ⟨q1.c, rfl⟩, ?_⟩
    have e : ((z.length : Int) != 0) = decide (z.length ≠ 0) := by by_cases h : z.length = 0 <;> simp [h]
    rw [e]; exact q1.q
  | ref p =>
    obtain ⟨⟨dx, vs, hsl⟩, q⟩ := q1
    cases r1
    obtain ⟨sl, od, _, J, _⟩ := SlX.slt_inst I1 hsl
    obtain ⟨m, hF⟩ := I1.fr
    refine PySem.W.truthy_K hF I1.ok.mod.kin J hm.at_ hm.fn (wpAny_mono (run_op (us := [.ref p]) (vs := [.ref p]) F hr I1.env0 hx I1 (.cons rfl .nil) q) (fun w s' z => ?_) fun _ _ x => x)
    obtain ⟨z', H', I', rz, qz⟩ := z
    obtain ⟨b, e, qz⟩ := isB_ex qz
    subst e
    cases rz
    exact ⟨H', I', qz⟩
  | _ => exact q1.elim
end S
namespace S
open PySem PySem.Spec PyProof.Rows L2
section
variable {X : Cx} {k n : Nat} {f : Addr} {sp : SpG} {x : Str} {p pos : Pos} {e : Expr} {es : List Expr} {t tk : TA} {gV : List V → List V → List V} {ks : List Str} {kws : List Keyword}
theorem run_gfk {pins : List (Addr × Obj)} {σ : L2.St} {H : Hp} {s : Shared} {us ws : List Value} {vs zs : List V} {cont : List V → Hp → Prop} {E : XK} {E1 : Value → Shared → Prop} (F : GFK X.prog X.w X.K X.mg X.base k f n ks sp gV) (hr : Room k X.A)
    (I : Inv X pins σ H s) (r : Vals vs us) (rz : Vals zs ws) (l1 : vs.length = n) (l2 : zs.length = ks.length) (h : sp (gV vs zs) H cont E) :
    wpAny (model X.prog X.w) X.A (call (.ref f) us (ks.zip ws)) (fun u s' => ∃ H1 sc ex, Inv X pins σ H1 sc ∧ ExOk X pins ex ∧ GMade X.prog X.w k X.stack H1 sc ex cont E u s') E1 s := by
  obtain ⟨fd, ps, gg, F, hb⟩ := F.ex
  have r2 := hb.rel r rz
  refine wpAny_call (codeAny_mono (F.run X.A X.stack s H ⟨us, ks.zip ws⟩ (gg us ws) (gV vs zs) cont E hr I.env0 (hb.to s us ws I.kIn (r.length.symm.trans l1) (rz.length.symm.trans l2)) r2 h) fun r s' hq => ?_)
  cases r with
  | error e => exact False.elim hq
  | ok fl =>
    cases fl with
    | ret u => exact ⟨H, s, [], I, .nil, hq⟩
    | next => exact False.elim hq
    | brk => exact False.elim hq
    | cont => exact False.elim hq
/-- f(e, .., k = v, ..) -/
def tCallGK (n m : Nat) (sp : SpG) (gV : List V → List V → List V) (t tk : TA) : TGenE := fun E σ H cont => t σ H fun vs H1 => tk σ H1 fun zs H2 => vs.length = n ∧ zs.length = m ∧ sp (gV vs zs) H2 cont E
theorem pgen_callK (F : GFK X.prog X.w X.K X.mg X.base k f n ks sp gV) (hr : Room k X.A) (hm : X.mg x = some (.ref f)) (hk : PySem.W.keepIn X.K (.ref f) = true)
    (ha : PA X (e :: es) t) (hkw : PK X kws tk) (hg : Gl X x := by rfl) (hall : (backToKw pos (keywordEach kws X.env)).all (·.1.isSome) = true := by rfl) (hks : (backToKw pos (keywordEach kws X.env)).filterMap (·.1) = ks := by rfl)
    (hdb : (x == ("__debug__" : Str)) = false := by decide) (he : starEach (e :: es) X.env = (false, eval e X.env) :: starEach es X.env := by rfl)
    (hpl : ((backTo pos (starEach (e :: es) X.env)).any (·.1) || (backToKw pos (keywordEach kws X.env)).any (·.1.isNone)) = false := by rfl) :
    PGenE X k (.Call (.Name x p) (e :: es) kws pos) (tCallGK n ks.length sp gV t tk) := by
  refine ⟨fun E => ⟨fun pins s σ H cont I h => ?_⟩⟩
  refine wpAny_Call_Name_kw (ld_glob I hg hm ?_ hdb)
  refine PySem.W.callWith_KW (h₀ := X.base) I.ok.mod.kin hk hall (thn (ha.run pos pins s σ H _ I h) fun us s1 ⟨vs, H1, I1, r, q⟩ => ?_) hpl he
  refine thn (hkw.run pos pins s1 σ H1 _ I1 q) fun ws s2 ⟨zs, H2, I2, rz, l1, l2, q2⟩ => ⟨I2.kIn, ?_⟩
  rw [hks]
  exact run_gfk F hr I2 r rz l1 l2 q2
end
end S
namespace S
open PySem PySem.Spec PyProof.Rows L2 GenW
/-! ### a heap's beginning as the ground of a run -/
def cut0 (h : Heap) (n : Nat) : Heap := { h with objs := h.objs.extract 0 n }
theorem cut0_ix {h : Heap} {n b : Nat} : (cut0 h n).objs[b]? = if b < n then h.objs[b]? else none := by
  unfold cut0
  simp only [Array.getElem?_extract]
  by_cases hb : b < n
  · rw [if_pos hb]
    by_cases h2 : b < h.objs.size
    · rw [if_pos (by omega), Nat.zero_add]
    · rw [if_neg (by omega)]
      exact (Array.getElem?_eq_none (by omega)).symm
  · rw [if_neg hb, if_neg (by omega)]
theorem cut0_get {h : Heap} {n b : Nat} {o : Obj} (e : (cut0 h n).get? b = some o) : b < n ∧ h.get? b = some o := by
  have ix := cut0_ix (h := h) (n := n) (b := b)
  unfold Heap.get? at e ⊢
  rw [ix] at e
  by_cases hb : b < n
  · rw [if_pos hb] at e
    exact ⟨hb, e⟩
  · rw [if_neg hb] at e
    cases e
theorem cut0_at {h : Heap} {n b : Nat} {o : Obj} (hb : b < n) (e : h.get? b = some o) : (cut0 h n).get? b = some o := by
  have ix := cut0_ix (h := h) (n := n) (b := b)
  unfold Heap.get? at e ⊢
  rw [ix, if_pos hb]
  exact e
theorem cut0_size {h : Heap} {n : Nat} : (cut0 h n).objs.size = min n h.objs.size := by
  unfold cut0
  simp
theorem cut0_funs {h base : Heap} {n : Nat} : ∀ {l : List Env}, h.FunFrames base l → (∀ b ∈ frs l, b < n) → (cut0 h n).FunFrames base l
  | [], _, _ => trivial
  | env :: rest, ⟨hk, ⟨L, o, e1, e2, e3, e4⟩, hr⟩, hb => by
    refine ⟨hk, ⟨L, o, e1, e2, cut0_at (hb L ?_) e3, e4⟩, cut0_funs hr fun b q => hb b ?_⟩
    · unfold frs
      rw [List.filterMap_cons, e1]
      exact List.mem_cons_self
    · unfold frs at q ⊢
      rw [List.filterMap_cons, e1]
      exact List.mem_cons_of_mem _ q
/-- the context over another ground -/
def rebC (X : Cx) (b : Shared × Hp) : Cx := { X with s_0 := { b.1 with heap := cut0 b.1.heap X.s_0.heap.objs.size }, H_0 := b.2 }
/-- the untracked objects stay -/
theorem un_cut {fs ex : List Addr} {H : Hp} {h : Heap} {n : Nat} : Un fs ex H H (cut0 h n) h where
  keep := fun _ _ e _ _ _ => (cut0_get e).2
  slot := fun _ o e _ _ _ => ⟨o.slots, (cut0_get e).2⟩
  free := fun _ _ _ q _ => q
  there := fun _ o e _ => ⟨o, (cut0_get e).2⟩
  tups := fun _ _ q => q
  frzs := fun _ _ _ q => q
  tbls := fun _ ps q => ⟨#[], by rw [q]; simp⟩
/-- what is known of a state in which a sleeping generator is woken -/
structure Wok (X : Cx) (gp : List (Addr × Obj)) (s : Shared) (H : Hp) : Prop where
  bare : AllBare s.gens
  bs : ∀ b o, X.base.get? b = some o → s.heap.get? b = some o ∧ H b = none
  bsz : X.base.objs.size ≤ s.heap.objs.size
  funs : s.heap.FunFrames X.base X.outer
  frf : ∀ b ∈ X.fs, H b = none
  hok : HOk X.prog X.w H s.heap
  gp : ∀ p ∈ gp, s.heap.get? p.1 = some p.2 ∧ H p.1 = none
section
variable {X : Cx} {pins : List (Addr × Obj)} {σ : L2.St} {H H' : Hp} {s s' : Shared} {b : Shared × Hp} {oL : Obj}
/-- over the ground where it stands -/
theorem inv_reb (I : Inv X pins σ H s) : Inv (rebC X (s, H)) pins σ H s := by
  have fr : ∀ q ∈ X.fs, q < X.s_0.heap.objs.size := fun q hq => by
    obtain ⟨_, o, ho, _⟩ := I.ok.funs.mem hq
    exact Heap.lt_size ho
  have hfs : ∀ q ∈ X.fs, H q = none := fun q hq => by
    obtain ⟨_, o, ho, _⟩ := I.ok.funs.mem hq
    exact I.base.free q o ho (I.ok.frf q hq) fun z => I.ok.exfs q z hq
  have sz : (cut0 s.heap X.s_0.heap.objs.size).objs.size = X.s_0.heap.objs.size := by
    rw [cut0_size]
    exact Nat.min_eq_left I.sz
  refine ⟨⟨I.ok.mod, I.ok.kind, I.ok.glob, I.ok.blt, ?_, I.ok.inj, I.ok.has, fun x c h1 h2 => ?_, I.ok.hd, I.ok.frames, I.ok.stk, I.ok.exf, fun q o e => ?_, ?_, I.ok.noex, I.ok.exfs, cut0_funs I.funs fr, hfs⟩, rfl, I.bare, un_cut, I.loc, I.cell, I.free, I.freeC, I.pin, I.hok, I.len⟩
  · show (cut0 s.heap _).objs.size ≤ _
    rw [sz]; exact I.ok.above
  · show (cut0 s.heap _).objs.size ≤ _
    rw [sz]; exact I.ok.cab x c h1 h2
  · obtain ⟨e1, e2⟩ := I.bs q o e
    exact ⟨cut0_at (Nat.lt_of_lt_of_le (Heap.lt_size e) I.ok.bsz) e1, e2⟩
  · show _ ≤ (cut0 s.heap _).objs.size
    rw [sz]; exact I.ok.bsz
/-- woken: what is its own stands as it stood -/
theorem inv_wake (I : Inv (rebC X b) pins σ H s) (hnl : X.s_0.heap.objs.size ≤ X.env.locals) (hbz : X.base.objs.size ≤ X.s_0.heap.objs.size) (hfr : ∀ q ∈ X.fs, q < X.s_0.heap.objs.size) (hc : ∀ x, X.env.cells.lookup x = none) (hL : s.heap.get? X.env.locals = some oL)
    (w : Wok X ((X.env.locals, oL) :: (X.pn ++ pins)) s' H') : Inv (rebC X (s', H')) pins σ H' s' := by
  obtain ⟨w1, w2⟩ := w.gp (X.env.locals, oL) List.mem_cons_self
  have lt : X.env.locals < s'.heap.objs.size := Heap.lt_size w1
  have sz : (cut0 s'.heap X.s_0.heap.objs.size).objs.size = X.s_0.heap.objs.size := by
    rw [cut0_size]
    exact Nat.min_eq_left (Nat.le_trans hnl (Nat.le_of_lt lt))
  refine ⟨⟨I.ok.mod, I.ok.kind, I.ok.glob, I.ok.blt, ?_, I.ok.inj, I.ok.has, fun x c _ h2 => ?_, I.ok.hd, I.ok.frames, I.ok.stk, I.ok.exf, fun q o e => ?_, ?_, I.ok.noex, I.ok.exfs, cut0_funs w.funs hfr, w.frf⟩, rfl, w.bare, un_cut, ?_, fun x c h => ?_, w2, fun x c h => ?_, fun p hp => ?_, w.hok, I.len⟩
  · show (cut0 s'.heap _).objs.size ≤ _
    rw [sz]; exact hnl
  · have h2 : X.env.cells.lookup x = some c := h2
    rw [hc x] at h2; cases h2
  · obtain ⟨e1, e2⟩ := w.bs q o e
    exact ⟨cut0_at (Nat.lt_of_lt_of_le (Heap.lt_size e) hbz) e1, e2⟩
  · show _ ≤ (cut0 s'.heap _).objs.size
    rw [sz]; exact hbz
  · obtain ⟨m, hn, hl⟩ := I.loc
    obtain ⟨o, es, ep, ho, hr⟩ := hn
    have ho' : s.heap.get? X.env.locals = some o := ho
    rw [hL] at ho'
    cases ho'
    refine ⟨m, ⟨oL, es, ep, w1, hr⟩, fun i x v h1 h2 h3 => ?_⟩
    obtain ⟨u, r, l⟩ := hl i x v h1 h2 h3
    refine ⟨u, r, l.imp (fun z => z) fun z => ?_⟩
    obtain ⟨_, c, e, _⟩ := z
    have e : X.env.cells.lookup x = some c := e
    rw [hc x] at e; cases e
  · have h : X.env.cells.lookup x = some c := h
    rw [hc x] at h; cases h
  · have h : X.env.cells.lookup x = some c := h
    rw [hc x] at h; cases h
  · obtain ⟨_, _, k3, k4, k5⟩ := I.pin p hp
    obtain ⟨g1, g2⟩ := w.gp p (List.mem_cons_of_mem _ hp)
    exact ⟨g1, g2, k3, k4, k5⟩
end

/-! ### a generator's body whose yields are the consumer's turns -/
abbrev TurnK := List V → V → Hp → (Hp → Prop) → Prop
abbrev WakeZ := List V → Shared → Hp → Prop
/-- the state in which the generator was woken -/
structure Gnd (X : Cx) (Z : WakeZ) (ys : List V) (s : Shared) (H : Hp) : Prop where
  z : Z ys s H
  sz : X.s_0.heap.objs.size ≤ s.heap.objs.size
/-- what a generator's body may count on -/
structure Alone (X : Cx) : Prop where
  nox : ∀ e s, X.xe e s → False
  nl : X.s_0.heap.objs.size ≤ X.env.locals
  bz : X.base.objs.size ≤ X.s_0.heap.objs.size
  fr : ∀ q ∈ X.fs, q < X.s_0.heap.objs.size
  nc : ∀ x, X.env.cells.lookup x = none
def GYf (X : Cx) (Z : WakeZ) (Kc : TurnK) : Protocol := fun n s₀ v s kap =>
  ∃ ys x ip σ H0 H oL post, n + 1 + ys.length = sizeLine ∧ RelV x v ∧ Gnd X Z ys s₀ H0 ∧ Inv (rebC X (s₀, H0)) ip σ H s ∧ s.heap.get? X.env.locals = some oL ∧ Kc ys x H post ∧
    ∀ s' H', Wok X ((X.env.locals, oL) :: (X.pn ++ ip)) s' H' → Z (ys ++ [x]) s' H' → post H' → kap (.send .none) s'
def GRf (X : Cx) (Z : WakeZ) (Q : List V → VK) : GenEnd := fun n s₀ r s => match r with
  | .ok (.ret u) => ∃ ys v ip σ H0 H, n + ys.length = sizeLine ∧ Gnd X Z ys s₀ H0 ∧ Inv (rebC X (s₀, H0)) ip σ H s ∧ RelV v u ∧ Q ys v H
  | _ => False
def GPf (X : Cx) (Z : WakeZ) (ip : List (Addr × Obj)) (D : GEnds) (ys : List V) (s₀ : Shared) (f : Flow) (s : Shared) : Prop := ∃ H0, Gnd X Z ys s₀ H0 ∧ SP (rebC X (s₀, H0)) ip (D.at ys) f s
structure GCf (X : Cx) (A : Around) (c : Code) (fs : List Frame) (gd : Bool → Bool) : Prop where
  over : A.over c fs = X.A
  split : splitAtGen fs = none
  guard : fs.any Frame.guarded = false
  gd : gd false = false
def GKf (X : Cx) (Z : WakeZ) (Kc : TurnK) (ip : List (Addr × Obj)) (A : Around) (R : GenEnd) (c : Code) (fs : List Frame) (K : Flow → Sem PySem.Fin) (D : GEnds) : Prop :=
  ∀ (n : Nat) (ys : List V) (s₀ s : Shared) (f : Flow), n + ys.length = sizeLine → GPf X Z ip D ys s₀ f s → Seg (model X.prog X.w) A R (GYf X Z Kc) n s₀ c (K f) fs s
def GRun (X : Cx) (Z : WakeZ) (Kc : TurnK) (m : Sem Flow) (t : TGn) : Prop :=
  ∀ (A : Around) (ip : List (Addr × Obj)) (R : GenEnd) (n : Nat) (ys : List V) (s₀ : Shared) (H0 : Hp) (c : Code) (fs : List Frame) (K : Flow → Sem PySem.Fin) (J : Value → Sem PySem.Fin) (gd : Bool → Bool) (lv : List Value → List Value) (s : Shared) (σ : L2.St) (H : Hp) (D : GEnds),
    GCf X A c fs gd → n + ys.length = sizeLine → Gnd X Z ys s₀ H0 → GKf X Z Kc ip A R c fs K D → Inv (rebC X (s₀, H0)) ip σ H s → t D ys σ H → Seg (model X.prog X.w) A R (GYf X Z Kc) n s₀ c (m.wrap K J gd lv) fs s
structure GSf (X : Cx) (Z : WakeZ) (Kc : TurnK) (st : Stmt) (t : TGn) : Prop where
  run : GRun X Z Kc (exec st X.env) t
structure GSsf (X : Cx) (Z : WakeZ) (Kc : TurnK) (st : List Stmt) (t : TGn) : Prop where
  run : GRun X Z Kc (execs st X.env) t
section
variable {X : Cx} {Z : WakeZ} {Kc : TurnK} {st : Stmt} {rest : List Stmt}
theorem gsf_ps {t : TS} (al : Alone X) (h : ∀ b, PS (rebC X b) st t) : GSf X Z Kc st (tPlain t) := by
  refine ⟨fun A ip R n ys s₀ H0 c fs K J gd lv s σ H D g hn hz k I ht => ?_⟩
  refine seg_wrap ?_
  rw [g.over]
  exact wpAny_mono ((h (s₀, H0)).run ip s σ H (D.at ys) I ht) (fun f s' hs => k n ys s₀ s' f hn ⟨H0, hz, hs⟩) fun x s' hx => (al.nox x s' hx).elim
theorem gssf_nil : GSsf X Z Kc [] tG0 := by
  refine ⟨fun A ip R n ys s₀ H0 c fs K J gd lv s σ H D g hn hz k I ht => ?_⟩
  exact seg_execs_nil (k n ys s₀ s .next hn ⟨H0, hz, σ, H, I, ht⟩)
theorem gssf_cons {t u : TGn} (a : GSf X Z Kc st t) (b : GSsf X Z Kc rest u) : GSsf X Z Kc (st :: rest) (tGThen t u) := by
  refine ⟨fun A ip R n ys s₀ H0 c fs K J gd lv s σ H D g hn hz k I ht => ?_⟩
  refine seg_execs_cons (a.run A ip R n ys s₀ H0 c fs _ J gd lv s σ H { D with nx := fun ys' σ' H' => u D ys' σ' H' } g hn hz (fun n' ys' s₀' s' f hn' hs => ?_) I ht)
  cases f with
  | next =>
    obtain ⟨H0', hz', σ', H', I', q⟩ := hs
    exact b.run A ip R n' ys' s₀' H0' c fs K J gd lv s' σ' H' D g hn' hz' k I' q
  | brk => exact k n' ys' s₀' s' .brk hn' hs
  | cont => exact k n' ys' s₀' s' .cont hn' hs
  | ret u => exact k n' ys' s₀' s' (.ret u) hn' hs
theorem gssf_one {t : TGn} (h : GSf X Z Kc st t) : GSsf X Z Kc [st] t := by
  have h2 := gssf_cons h (gssf_nil (X := X) (Z := Z) (Kc := Kc))
  exact ⟨fun A ip R n ys s₀ H0 c fs K J gd lv s σ H D g hn hz k I ht => h2.run A ip R n ys s₀ H0 c fs K J gd lv s σ H D g hn hz k I ht⟩
theorem gssf_stop {t : TGn} (h : GSsf X Z Kc rest t) : GSsf X Z Kc rest (gstop t) := ⟨fun A ip R n ys s₀ H0 c fs K J gd lv s σ H D g hn hz k I ht => h.run A ip R n ys s₀ H0 c fs K J gd lv s σ H D g hn hz k I ht.go⟩
theorem gsf_if {test : Expr} {body orelse : List Stmt} {pos : Pos} {c : TT} {t u : TGn} (al : Alone X) (hc : ∀ b, PT (rebC X b) test c) (ha : GSsf X Z Kc body t) (hb : GSsf X Z Kc orelse u) : GSf X Z Kc (.If test body orelse pos) (tGIf c t u) := by
  refine ⟨fun A ip R n ys s₀ H0 cd fs K J gd lv s σ H D g hn hz k I ht => ?_⟩
  show Seg _ _ _ _ _ _ _ ((do standAt pos; if ← isTrue test X.env (eval test X.env) then execs body X.env else execs orelse X.env : Sem Flow).wrap K J gd lv) _ _
  refine seg_bind_wrap (wpAny_standAt (seg_bind_wrap ?_))
  rw [g.over]
  refine wpAny_mono ((hc (s₀, H0)).run ip s σ H _ I ht) (fun b s' hb' => ?_) fun x s' hx => (al.nox x s' hx).elim
  obtain ⟨H2, I2, q2⟩ := hb'
  cases b with
  | true =>
    rw [if_pos rfl]
    exact ha.run A ip R n ys s₀ H0 cd fs K J gd lv s' σ H2 D g hn hz k I2 q2
  | false =>
    rw [if_neg Bool.false_ne_true]
    exact hb.run A ip R n ys s₀ H0 cd fs K J gd lv s' σ H2 D g hn hz k I2 q2
/-- yield e: the consumer's turn -/
def tFYield (Kc : TurnK) (te : TE) : TGn := fun D ys σ H => Need (ys.length < sizeLine) (te σ H fun x H1 => Kc ys x H1 fun H' => D.nx (ys ++ [x]) σ H')
theorem gsf_yield {e : Expr} {te : TE} {yp pos : Pos} (al : Alone X) (he : ∀ b, PE (rebC X b) e te) (hco : X.env.scope.isCoroutine = false := by rfl) (hi : interactive X.env = false := by rfl) : GSf X Z Kc (.Expr (.Yield (some e) yp) pos) (tFYield Kc te) := by
  refine ⟨fun A ip R n ys s₀ H0 c fs K J gd lv s σ H D g hn hz k I ht => ?_⟩
  obtain ⟨hlt, ht⟩ := ht
  obtain ⟨n, rfl⟩ : ∃ m, n = m + 1 := ⟨n - 1, by omega⟩
  refine seg_Expr_Yield g.split g.gd g.guard ?_ hco hi
  rw [g.over]
  refine wpAny_mono ((he (s₀, H0)).run ip s σ H _ I ht) (fun v s' hv => ?_) fun x s' hx => (al.nox x s' hx).elim
  obtain ⟨x, H1, I1, rv, q⟩ := hv
  intro kap hk
  obtain ⟨m, ⟨oL, es, ep, hL, hr⟩, _⟩ := id I1.loc
  have hL : s'.heap.get? X.env.locals = some oL := hL
  refine ⟨ys, x, ip, σ, H0, H1, oL, _, hn, rv, hz, I1, hL, q, fun s2 H2 w z p => hk .none s2 ?_⟩
  have lt : X.env.locals < s2.heap.objs.size := Heap.lt_size (w.gp (X.env.locals, oL) List.mem_cons_self).1
  refine k n (ys ++ [x]) s2 s2 .next ?_ ⟨H2, ⟨z, Nat.le_trans al.nl (Nat.le_of_lt lt)⟩, σ, H2, inv_wake I1 al.nl al.bz al.fr al.nc hL w, p⟩
  rw [List.length_append, List.length_singleton]; omega
theorem gcf_loop {A : Around} {c c' : Code} {fs : List Frame} {gd : Bool → Bool} {k : Result → Sem PySem.Fin} {l kp : List Value} {p : Pos} (g : GCf X A c fs gd) (hw : c'.weight = 0) (hu : c'.cUnits = 0) :
    GCf X A c' (.ret k none (gd false) l c p kp :: fs) id := by
  refine ⟨(over_loop hw hu).trans g.over, ?_, ?_, rfl⟩
  · show (splitAtGen fs).map _ = none
    rw [g.split] <;> rfl
  · show (gd false || fs.any Frame.guarded) = false
    rw [g.gd, g.guard] <;> rfl
theorem fpOk_reb {b b' : Shared × Hp} {ip : List (Addr × Obj)} {H H' : Hp} {q : Addr} (h : FpOk (rebC X b) ip H q) (hz : X.s_0.heap.objs.size ≤ b.1.heap.objs.size) (hn : H' q = none) : FpOk (rebC X b') ip H' q := by
  obtain ⟨_, h2, h3, h4, h5, h6⟩ := h
  refine ⟨hn, h2, h3, h4.imp (fun z => z) fun z => ?_, h5, h6⟩
  have z : (cut0 b.1.heap X.s_0.heap.objs.size).objs.size ≤ q := z
  show (cut0 b'.1.heap X.s_0.heap.objs.size).objs.size ≤ q
  rw [cut0_size] at z ⊢
  have z2 := Nat.min_eq_left hz
  rw [z2] at z
  exact Nat.le_trans (Nat.min_le_left _ _) z
theorem gsf_for {tg iter : Expr} {body : List Stmt} {wi : TI} {g : TG} {tb : TGn} {pos : Pos} (al : Alone X) (hc : X.calm = true) (hi : ∀ b, PI (rebC X b) tg iter wi) (hg : ∀ b, PG (rebC X b) tg g) (hb : GSsf X Z Kc body tb)
    (hs : ∀ x, foldedSetIterable iter X.env x = pure x := by intro _; rfl) : GSf X Z Kc (.For tg iter body [] pos) (dGFor wi g tb) := by
  refine ⟨fun A ip R n ys s₀ H0 c fs K J gd lv s σ H D gc hn hz k I ht => ?_⟩
  rw [exec_For]
  refine seg_bind_wrap (wpAny_standAt (seg_bind_wrap ?_))
  rw [gc.over]
  refine wpAny_mono ((hi (s₀, H0)).run ip s σ H _ I ht) (fun v s1 h1 => ?_) fun x s' hx => (al.nox x s' hx).elim
  refine seg_bind_wrap (wpAny_of_eq (hs v) (seg_bind_wrap (wpAny_standAt (seg_bind_wrap (wpAny_holding ?_)))))
  rw [gc.over]
  refine wpAny_mono h1 (fun itv s2 h2 => ?_) fun x s' hx => (al.nox x s' hx).elim
  obtain ⟨it, fp, tn, It, H2, e, I2, T, st2, f2, W, ⟨m0, w0⟩, turn⟩ := h2
  subst e
  refine seg_call fun p => ?_
  have gl := fun (kk : Result → Sem PySem.Fin) => gcf_loop (k := kk) (c' := .forLoop tg (.ref it) body [] X.env) (l := lv []) (kp := []) (p := p) gc rfl rfl
  have stat : ∀ {b' : Shared × Hp} {H' : Hp}, (∀ b ∈ fp, H' b = none) → ∀ b ∈ fp, FpOk (rebC X b') ip H' b := fun hn b hb => fpOk_reb (f2 b hb) hz.sz (hn b hb)
  have loop : ∀ (m i n : Nat) (ys : List V) (s₀ : Shared) (H0 : Hp) (s : Shared) (σ : L2.St) (H : Hp), n + ys.length = sizeLine → Gnd X Z ys s₀ H0 → W i m ys σ H → Inv (rebC X (s₀, H0)) ip σ H s → tn i s.heap → (∀ b ∈ fp, H b = none) →
      Seg (model X.prog X.w) A R (GYf X Z Kc) n s₀ (.forLoop tg (.ref it) body [] X.env) ((model X.prog X.w).den (.forLoop tg (.ref it) body [] X.env))
        (.ret (fun r => ((match r with | .ok f => (.pure f : Sem Flow) | .error e => .raise e).onRaise (cameBack X.env)).wrap K J gd lv) none (gd false) (lv []) c p [] :: fs) s := by
    intro m
    induction m using Nat.strongRecOn with
    | ind m ih =>
      intro i n ys s₀ H0 s σ H hn hz w I st fr
      refine seg_forLoop ?_
      rw [(gl _).over]
      rcases turn i m ys σ H w with ⟨stop, qn⟩ | ⟨go, N, hN, step⟩
      · refine wpAny_mono (T.done (rebC X (s₀, H0)) rfl rfl rfl hc i ip s σ H X.xe I (stat fr) st stop) (fun r s4 h4 => ?_) fun x s' hx => (al.nox x s' hx).elim
        obtain ⟨hr, I4⟩ := h4
        subst hr
        refine seg_block0 ?_
        exact seg_leaf (.ok .next) (k n ys s₀ s4 .next hn ⟨H0, hz, σ, H, I4, qn⟩)
      · refine wpAny_mono (T.item (rebC X (s₀, H0)) rfl rfl rfl hc i ip s σ H X.xe I (stat fr) st go) (fun r s4 h4 => ?_) fun x s' hx => (al.nox x s' hx).elim
        obtain ⟨u, hr, h4⟩ := h4
        subst hr
        refine wpAny_mono h4 (fun _ s5 h5 => ?_) fun x s' hx => (al.nox x s' hx).elim
        obtain ⟨x, H5, I5, r5, y5, st5, fr5⟩ := h5
        have I5' := I5.pinned (stat fr5) (T.obj _ _ st5)
        refine wpAny_mono ((hg (s₀, H0)).run _ s5 σ H5 x u _ I5' r5 (step x H5 y5)) (fun _ s6 h6 => ?_) fun x s' hx => (al.nox x s' hx).elim
        obtain ⟨σ6, H6, I6, q6⟩ := h6
        have again : ∀ {ys' : List V} {σ7 : L2.St} {H7 H0' : Hp} {s7 : Shared} {n' : Nat} {s₀' : Shared}, n' + ys'.length = sizeLine → Gnd X Z ys' s₀' H0' → Inv (rebC X (s₀', H0')) (ip ++ pinsAt fp s5.heap) σ7 H7 s7 → N ys' σ7 H7 →
            Seg (model X.prog X.w) A R (GYf X Z Kc) n' s₀' (.forLoop tg (.ref it) body [] X.env) (.pure (.again (.forLoop tg (.ref it) body [] X.env)))
            (.ret (fun r => ((match r with | .ok f => (.pure f : Sem Flow) | .error e => .raise e).onRaise (cameBack X.env)).wrap K J gd lv) none (gd false) (lv []) c p [] :: fs) s7 := by
          intro ys' σ7 H7 H0' s7 n' s₀' hn' hz' I7 n7
          obtain ⟨m', hm, w7⟩ := hN ys' σ7 H7 n7
          have pin : ∀ b ∈ fp, ∀ o, s5.heap.get? b = some o → s7.heap.get? b = some o ∧ H7 b = none := fun b hb o e => by
            have := I7.pin (b, o) (List.mem_append_right _ (List.mem_append_right _ (mem_pinsAt hb e)))
            exact ⟨this.1, this.2.1⟩
          refine seg_again rfl (ih m' hm (i + 1) n' ys' s₀' H0' s7 σ7 H7 hn' hz' w7 I7.unpinned (T.keep _ _ _ st5 fun b hb o e => (pin b hb o e).1) fun b hb => ?_)
          obtain ⟨o, e, d⟩ := T.obj _ _ st5 b hb
          exact (pin b hb o e).2
        refine hb.run A (ip ++ pinsAt fp s5.heap) R n ys s₀ H0 _ _ _ _ id id s6 σ6 H6 { D with nx := N, ct := N, bk := D.nx } (gl _) hn hz (fun n' ys' s₀' s7 f hn' hs => ?_) I6 q6
        obtain ⟨H0', hz', hs⟩ := hs
        cases f with
        | next =>
          obtain ⟨σ7, H7, I7, n7⟩ := hs
          exact again hn' hz' I7 n7
        | cont =>
          obtain ⟨σ7, H7, I7, n7⟩ := hs
          exact again hn' hz' I7 n7
        | brk =>
          obtain ⟨σ7, H7, I7, q7⟩ := hs
          exact seg_leaf (.ok .next) (k n' ys' s₀' s7 .next hn' ⟨H0', hz', σ7, H7, I7.unpinned, q7⟩)
        | ret v =>
          obtain ⟨y, σ7, H7, I7, r7, q7⟩ := hs
          exact seg_leaf (.ok (.ret v)) (k n' ys' s₀' s7 (.ret v) hn' ⟨H0', hz', y, σ7, H7, I7.unpinned, r7, q7⟩)
  exact loop m0 0 n ys s₀ H0 s2 σ H2 hn hz w0 I2 st2 fun b hb => (f2 b hb).1
end

/-! ### the call of such a def -/
abbrev SpF := List V → Hp → TurnK → (List V → Hp → Prop) → Prop
structure Wok0 (P : Program) (w : World) (base : Heap) (outer : List Env) (gp : List (Addr × Obj)) (s : Shared) (H : Hp) : Prop where
  bare : AllBare s.gens
  bs : ∀ b o, base.get? b = some o → s.heap.get? b = some o ∧ H b = none
  bsz : base.objs.size ≤ s.heap.objs.size
  funs : s.heap.FunFrames base outer
  frf : ∀ b ∈ frs outer, H b = none
  hok : HOk P w H s.heap
  gp : ∀ p ∈ gp, s.heap.get? p.1 = some p.2 ∧ H p.1 = none
/-- an item is handed out: n objects stood when the generator was made -/
def YItF (P : Program) (w : World) (base : Heap) (outer : List Env) (ng : Nat) (a : Addr) (g : Nat) (Z : WakeZ) (Kc : TurnK) : Protocol := fun n s₀ v s1 kap =>
  ∃ ys x H0 H gp post, n + 1 + ys.length = sizeLine ∧ RelV x v ∧ Z ys s₀ H0 ∧ s1.os = s₀.os ∧ AllBare s1.gens ∧ s1.heap.NoLimit ∧ s1.heap.IsGen a g ∧ Un (frs outer) [] H0 H (cut0 s₀.heap ng) s1.heap ∧ HOk P w H s1.heap ∧
    (∀ p ∈ gp, s1.heap.get? p.1 = some p.2 ∧ H p.1 = none ∧ p.1 ∉ frs outer ∧ ∀ v, p.2.data ≠ .cell v) ∧ (∃ o, (a, o) ∈ gp) ∧ Kc ys x H post ∧ ∀ s' H', Wok0 P w base outer gp s' H' → Z (ys ++ [x]) s' H' → post H' → kap (.send .none) s'
/-- the end -/
def FEnd (P : Program) (w : World) (outer : List Env) (ng : Nat) (Z : WakeZ) (Q : List V → Hp → Prop) (s₀ s1 : Shared) : Prop :=
  ∃ ys H0 H, Z ys s₀ H0 ∧ s1.os = s₀.os ∧ AllBare s1.gens ∧ Un (frs outer) [] H0 H (cut0 s₀.heap ng) s1.heap ∧ HOk P w H s1.heap ∧ Q ys H
def REnF (P : Program) (w : World) (outer : List Env) (ng : Nat) (Z : WakeZ) (Q : List V → Hp → Prop) : GenEnd := fun _ s₀ r s1 => ((r = .ok (.ret .none) ∨ r = .ok .next) ∧ FEnd P w outer ng Z Q s₀ s1) ∨ ∃ e, r = .error e ∧ False
/-- a generator that has not begun -/
def GMadeF (P : Program) (w : World) (K : Frag) (mg : Str → Option Value) (base : Heap) (k : Nat) (outer : List Env) (H : Hp) (s : Shared) (Kc : TurnK) (Q : List V → Hp → Prop) (u : Value) (s' : Shared) : Prop :=
  ∃ (a : Addr) (g : Nat) (c : Code), u = .ref a ∧ s.heap.objs.size ≤ a ∧ s'.heap.IsGen a g ∧ s'.gens[g]? = some (.fresh c) ∧ s'.os = s.os ∧ AllBare s'.gens ∧ s'.heap.NoLimit ∧ (∀ b o, s.heap.get? b = some o → s'.heap.get? b = some o) ∧
    ∀ (A : Around) (Z : WakeZ) (s2 : Shared), Room k A → A.frames = some outer → Env0 P w K mg base A outer s2 H → s2.heap = s'.heap → s2.os = s'.os → Z [] s2 H →
      Seg (model P w) A (REnF P w outer s.heap.objs.size Z Q) (YItF P w base outer s.heap.objs.size a g Z Kc) sizeLine s2 c ((model P w).den c) [] s2
def gcx0 (P : Program) (w : World) (K : Frag) (mg : Str → Option Value) (base : Heap) (N : List Str) (qual : Str) (scope : Scope) (f : Addr) (cd : Value) (A : Around) (outer : List Env) (s : Shared) (H : Hp) (pn : List (Addr × Obj)) : Cx :=
  { cxOf (L2.CX P w) P w K mg base N qual scope f cd A outer s H (fun _ _ _ => False) with pn := pn, xe := fun _ _ => False }
theorem cells_no {x : Str} : ∀ {names : List (Str × NameKind)} {n : Nat}, (∀ y ∈ names, y.2 ≠ .cell) → (cellsFrom n names []).lookup x = none
  | [], _, _ => rfl
  | (y, k) :: r, n, h => by
    have hk : (k == .cell) = false := by
      have := h (y, k) List.mem_cons_self
      cases k <;> first | rfl | exact absurd rfl this
    unfold cellsFrom
    rw [hk, if_neg Bool.false_ne_true]
    exact cells_no fun z hz => h z (List.mem_cons_of_mem _ hz)
structure GFF (P : Program) (w : World) (K : Frag) (mg : Str → Option Value) (base : Heap) (k : Nat) (f : Addr) (sp : SpF) : Prop where
  run : ∀ (A : Around) (outer : List Env) (s : Shared) (H : Hp) (us : List Value) (vs : List V) (Kc : TurnK) (Q : List V → Hp → Prop), Room k A → Env0 P w K mg base A outer s H → Vals vs us → sp vs H Kc Q →
    codeAny (model P w) A (.call (.ref f) ⟨us, []⟩) (fun r s' => match r with | .ok (.ret u) => GMadeF P w K mg base k outer H s Kc Q u s' | _ => False) s
theorem inv_swap {X Y : Cx} {pins : List (Addr × Obj)} {σ : L2.St} {H : Hp} {s : Shared} (I : Inv X pins σ H s) (e : Y = { X with xe := Y.xe }) : Inv Y pins σ H s := by
  rw [e]
  exact ⟨⟨I.ok.mod, I.ok.kind, I.ok.glob, I.ok.blt, I.ok.above, I.ok.inj, I.ok.has, I.ok.cab, I.ok.hd, I.ok.frames, I.ok.stk, I.ok.exf, I.ok.bs, I.ok.bsz, I.ok.noex, I.ok.exfs, I.ok.funs, I.ok.frf⟩, I.os, I.bare, I.base, I.loc, I.cell, I.free, I.freeC, I.pin, I.hok, I.len⟩
theorem inv_pn {X : Cx} {pn : List (Addr × Obj)} {σ : L2.St} {H : Hp} {s : Shared} (I : Inv X [] σ H s) (h : ∀ p ∈ pn, s.heap.get? p.1 = some p.2 ∧ H p.1 = none ∧ p.1 ≠ X.env.locals ∧ p.1 ∉ X.fs ∧ ∀ v, p.2.data ≠ .cell v) : Inv { X with pn := pn } [] σ H s :=
  ⟨⟨I.ok.mod, I.ok.kind, I.ok.glob, I.ok.blt, I.ok.above, I.ok.inj, I.ok.has, I.ok.cab, I.ok.hd, I.ok.frames, I.ok.stk, I.ok.exf, I.ok.bs, I.ok.bsz, I.ok.noex, I.ok.exfs, I.ok.funs, I.ok.frf⟩, I.os, I.bare, I.base, I.loc, I.cell, I.free, I.freeC, fun p hp => h p (by simpa using hp), I.hok, I.len⟩
/-- a generator def's promise to a loop, by its body -/
theorem gff_of {P : Program} {w : World} {K : Frag} {mg : Str → Option Value} {base : Heap} {k : Nat} {f : Addr} {x qual : Str} {params : Arguments} {body : List Stmt} {scope : Scope} {fd : FuncData} {N ps : List Str} {sp : SpF}
    (F : FunD K x qual params body scope [] [] f fd) (S : GScope N ps scope) (hnc : ∀ y ∈ scope.names, y.2 ≠ .cell) (len : ∀ vs H Kc Q, sp vs H Kc Q → vs.length = ps.length)
    (hbi : ∀ (kV doc pm : Value) (an : Option Addr) (cdv ct : Value) (us : List Value), us.length = ps.length → bindArgs (PySem.W.fnOf x qual params body scope .none kV doc pm an cdv ct) ⟨us, []⟩ = pure (ps.zip us)) {t : TurnK → TGn}
    (hbody : ∀ (cdv : Value) (A : Around) (outer : List Env) (s : Shared) (H : Hp) (pn : List (Addr × Obj)) (Z : WakeZ) (Kc : TurnK), Room k (A.deeper (envOfC qual scope s.heap.objs.size f cdv)) → Alone (gcx0 P w K mg base N qual scope f cdv A outer s H pn) →
      GSsf (gcx0 P w K mg base N qual scope f cdv A outer s H pn) Z Kc body (t Kc))
    (pure : ∀ vs H Kc Q, sp vs H Kc Q → t Kc { nx := fun ys _ H' => Q ys H', rt := fun ys v H' => v = .non ∧ Q ys H' } [] (start N vs) H) : GFF P w K mg base (k + 1) f sp := by
  refine ⟨fun A outer s H us vs Kc Q hr e0 r hsp => ?_⟩
  have hb := F.bindsN hbi
  obtain ⟨oc, od, dV, kV, doc, pm, an, cdv, ct, osl, rfl, lk, hcd, _, _⟩ := F.ex
  have hl := len _ _ _ _ hsp
  have hl2 : us.length = ps.length := by rw [← r.length]; exact hl
  have KX : K.In s.heap := e0.mod.kin.keeps fun b o e => (e0.bs b o e).1
  have lim : s.heap.NoLimit := e0.mod.nolimit.keeps fun b o e => (e0.bs b o e).1
  have hkind : ∀ y ∈ ps.zip us, scope.names.lookup y.1 = some .local ∨ (scope.names.lookup y.1 = some .cell ∧ ((cellsFrom (s.heap.objs.size + 1) scope.names []).lookup y.1).isSome = true) := fun ⟨n, v⟩ hy => by
    rcases S.par n (List.of_mem_zip hy).1 with q | q
    · exact .inl q
    · exact absurd rfl (hnc _ (PySem.mem_of_lookup q))
  have hbind := hb s us KX (by simpa using hl2)
  rw [List.append_nil] at hbind
  refine codeAny_call_generator hr.depth (KX _ _ lk) rfl S.co S.gen rfl (PySem.W.codeRec_of KX hcd) (hbind _ _ _ _ ?_)
  refine wpAny_newFunctionEnv_cells S.kind hkind fun env he s1 xx => ?_
  subst he
  have lim1 : s1.heap.NoLimit := lim.keeps xx.toInCall.keep
  refine ⟨lim1, ?_⟩
  obtain ⟨h1, tk, es1, hk1⟩ := xx.done
  have os1 : s1.os = s.os := by rw [es1]
  have gen1 : s1.gens = s.gens := by rw [es1]
  have lt1 : s.heap.objs.size < s1.heap.objs.size := xx.toInCall.ns.lt
  have main : ∀ (go : Obj) (nm qn : Value) (tk2 : Nat), go.cls = .type "generator" → go.data = .fields #[.int s1.gens.size 0, nm, qn] → go.slots = #[] → (∀ h : Heap, (h.push go).get? h.objs.size = some go) →
      GMadeF P w K mg base (k + 1) outer H s Kc Q (.ref s1.heap.objs.size) { s1 with gens := s1.gens.push (.fresh (.func body (envOfC qual scope s.heap.objs.size f cdv))), toks := tk2, heap := s1.heap.push go } := by
    intro go nm qn tk2 hgc hgd0 hgs hgp
    have hgen : ∀ h : Heap, h.get? s1.heap.objs.size = some go → h.IsGen s1.heap.objs.size s1.gens.size := fun h e => ⟨go, nm, qn, e, hgc, hgd0, hgs⟩
    have kpush : ∀ b o, s1.heap.get? b = some o → (s1.heap.push go).get? b = some o := fun b o e => Heap.get?_push_of_some _ e
    refine ⟨s1.heap.objs.size, s1.gens.size, _, rfl, Nat.le_of_lt lt1, hgen _ (hgp _), Array.getElem?_push_size .., os1, AllBare.push (by rw [gen1]; exact e0.bare) rfl, lim1.keeps kpush, fun b o e => kpush b o (xx.toInCall.keep b o e), ?_⟩
    intro Aw Z s2 hrw hfr e2 eh eo hz
    have eS : Env0 P w K mg base Aw outer s H := ⟨hfr, e0.mod, e0.bs, e0.bsz, e0.funs, e0.frf, e0.hok, e0.bare⟩
    have I1 : Inv (gcx0 P w K mg base N qual scope f cdv Aw outer s H []) [] (start N vs) H s1 := inv_swap (inv_startG (E := fun _ _ _ => False) S hrw.hd eS hl r xx) rfl
    have hgd : ∀ v, go.data ≠ .cell v := fun v q => by rw [hgd0] at q; cases q
    have al : Alone (gcx0 P w K mg base N qual scope f cdv Aw outer s H [(s1.heap.objs.size, go)]) := ⟨fun _ _ z => z, Nat.le_refl _, e0.bsz, fun q hq => by
      obtain ⟨_, o, ho, _⟩ := e0.funs.mem hq
      exact Heap.lt_size ho, fun y => cells_no hnc⟩
    have hfr0 : ∀ q ∈ frs outer, q < s.heap.objs.size := al.fr
    -- the frame stands in s2 as in s1
    have kp2 : ∀ b o, s1.heap.get? b = some o → s2.heap.get? b = some o := fun b o e => by rw [eh]; exact kpush b o e
    obtain ⟨m, ⟨oL, esL, epL, hL, hdL, hrL⟩, _⟩ := id I1.loc
    have I2 : Inv (gcx0 P w K mg base N qual scope f cdv Aw outer s H []) [] (start N vs) H s2 := I1.call' (ch := []) (eo.trans rfl) (Un.kept kp2) (I1.hok.kept kp2) e2.bare fun b z => by simp at z
    have hpn : s2.heap.get? s1.heap.objs.size = some go := by rw [eh]; exact hgp _
    have I3 : Inv (gcx0 P w K mg base N qual scope f cdv Aw outer s H [(s1.heap.objs.size, go)]) [] (start N vs) H s2 := inv_pn I2 fun p hp => by
      rw [List.mem_singleton.mp hp]
      refine ⟨hpn, I1.hok.fresh (Nat.le_refl _), Nat.ne_of_gt lt1, fun z => ?_, hgd⟩
      exact absurd (Nat.lt_trans (hfr0 _ z) lt1) (Nat.lt_irrefl _)
    have I4 := inv_reb I3
    have gz : Gnd (gcx0 P w K mg base N qual scope f cdv Aw outer s H [(s1.heap.objs.size, go)]) Z [] s2 H := ⟨hz, I3.sz⟩
    refine seg_func ?_
    refine seg_imp (R := GRf (gcx0 P w K mg base N qual scope f cdv Aw outer s H [(s1.heap.objs.size, go)]) Z fun ys v H' => v = .non ∧ Q ys H') (Y := GYf (gcx0 P w K mg base N qual scope f cdv Aw outer s H [(s1.heap.objs.size, go)]) Z Kc)
      (fun n s₀ r s1' hR => ?_) (fun n s₀ v s1' kap kap' hkk hY => ?_) sizeLine ?_
    · cases r with
      | error e => exact False.elim hR
      | ok fl =>
        cases fl with
        | next => exact False.elim hR
        | brk => exact False.elim hR
        | cont => exact False.elim hR
        | ret u =>
          obtain ⟨ys, v, ip, σ', H0, H', hn, hz', J, rv, ev, hQ⟩ := hR
          subst ev
          have eu : u = Value.none := rv
          subst eu
          exact .inl ⟨.inl rfl, ys, H0, H', hz'.z, J.os, J.bare, J.base, J.hok, hQ⟩
    · obtain ⟨ys, y, ip, σ', H0, H', oL', post, hn, rv, hz', J, hL', hk, hw⟩ := hY
      obtain ⟨m', ⟨o', es', ep', ho', hd', _⟩, _⟩ := id J.loc
      have ho' : s1'.heap.get? s.heap.objs.size = some o' := ho'
      have hL' : s1'.heap.get? s.heap.objs.size = some oL' := hL'
      rw [hL'] at ho'
      cases ho'
      refine ⟨ys, y, H0, H', (s.heap.objs.size, oL') :: ([(s1.heap.objs.size, go)] ++ ip), post, hn, rv, hz'.z, J.os, J.bare, J.nolimit, hgen _ (J.pin (s1.heap.objs.size, go) (List.mem_append_left _ (List.mem_singleton.mpr rfl))).1, J.base, J.hok, fun p hp => ?_, ⟨go, by simp⟩, hk, fun s' H2 wk z p => hkk _ _ (hw s' H2 ⟨wk.bare, wk.bs, wk.bsz, wk.funs, wk.frf, wk.hok, wk.gp⟩ z p)⟩
      rcases List.mem_cons.mp hp with e | hp
      · rw [e]
        refine ⟨hL', J.free, fun z => absurd (hfr0 _ z) (Nat.lt_irrefl _), fun v q => ?_⟩
        have q : oL'.data = .cell v := q
        rw [hd'] at q; cases q
      · obtain ⟨q1, q2, _, q4, q5⟩ := J.pin p hp
        exact ⟨q1, q2, q4, q5⟩
    · refine (hbody cdv Aw outer s H [(s1.heap.objs.size, go)] Z Kc (hrw.deeper _) al).run Aw [] _ sizeLine [] s2 H _ [] _ _ id id s2 (start N vs) H { nx := fun ys _ H' => Q ys H', rt := fun ys v H' => v = .non ∧ Q ys H' } ⟨over_func, rfl, rfl, rfl⟩ (Nat.add_zero _) gz (fun n ys s₀ s' fl hn hs => ?_) I4 (pure vs H Kc Q hsp)
      obtain ⟨H0, hz', hs⟩ := hs
      cases fl with
      | next =>
        obtain ⟨σ', H', J, hQ⟩ := hs
        exact seg_end (.ok (.ret .none)) ⟨ys, .non, [], σ', H0, H', hn, hz', J, rfl, rfl, hQ⟩
      | brk => obtain ⟨_, _, _, q⟩ := hs; exact False.elim q
      | cont => obtain ⟨_, _, _, q⟩ := hs; exact False.elim q
      | ret u =>
        obtain ⟨v, σ', H', J, rv, ev, hQ⟩ := hs
        exact seg_end (.ok (.ret u)) ⟨ys, v, [], σ', H0, H', hn, hz', J, rv, ev, hQ⟩
  exact main _ _ _ _ rfl rfl rfl fun h => Heap.get?_push_size _ rfl
end S
namespace S
open PySem PySem.Spec PyProof.Rows L2 GenW
section
variable (X : Cx)
def OpRg (f : Value → Value → Sem Value) (r : R2) : Prop := ∀ (pins : List (Addr × Obj)) (s : Shared) (σ : L2.St) (H : Hp) (x y : V) (v u : Value) (Q : VK), Inv X pins σ H s → RelV x v → RelV y u → r x y H Q →
  wpAny (model X.prog X.w) X.A (f v u) (fun z s' => s'.gens = s.gens ∧ EP X pins σ Q z s') X.xe s
structure PEg (e : Expr) (t : TE) : Prop where
  run : ∀ (pins : List (Addr × Obj)) (s : Shared) (σ : L2.St) (H : Hp) (Q : VK), Inv X pins σ H s → t σ H Q → wpAny (model X.prog X.w) X.A (eval e X.env) (fun z s' => s'.gens = s.gens ∧ EP X pins σ Q z s') X.xe s
structure PTg (e : Expr) (t : TT) : Prop where
  run : ∀ (pins : List (Addr × Obj)) (s : Shared) (σ : L2.St) (H : Hp) (Q : Bool → Hp → Prop), Inv X pins σ H s → t σ H Q → wpAny (model X.prog X.w) X.A (isTrue e X.env (eval e X.env)) (fun z s' => s'.gens = s.gens ∧ TP X pins σ Q z s') X.xe s
structure PSg (st : Stmt) (t : TS) : Prop where
  run : ∀ (pins : List (Addr × Obj)) (s : Shared) (σ : L2.St) (H : Hp) (D : Ends), Inv X pins σ H s → t D σ H → wpAny (model X.prog X.w) X.A (exec st X.env) (fun z s' => s'.gens = s.gens ∧ SP X pins D z s') X.xe s
structure PSsg (st : List Stmt) (t : TS) : Prop where
  run : ∀ (pins : List (Addr × Obj)) (s : Shared) (σ : L2.St) (H : Hp) (D : Ends), Inv X pins σ H s → t D σ H → wpAny (model X.prog X.w) X.A (execs st X.env) (fun z s' => s'.gens = s.gens ∧ SP X pins D z s') X.xe s
structure PGg (tg : Expr) (t : TG) : Prop where
  run : ∀ (pins : List (Addr × Obj)) (s : Shared) (σ : L2.St) (H : Hp) (v : V) (u : Value) (Q : L2.St → Hp → Prop), Inv X pins σ H s → RelV v u → t v σ H Q →
    wpAny (model X.prog X.w) X.A (assign tg X.env u) (fun _ s' => s'.gens = s.gens ∧ ∃ σ' H', Inv X pins σ' H' s' ∧ Q σ' H') X.xe s
structure PGsg (ts : List Expr) (t : TGs) : Prop where
  run : ∀ (pins : List (Addr × Obj)) (s : Shared) (σ : L2.St) (H : Hp) (vs : List V) (us : List Value) (Q : L2.St → Hp → Prop), Inv X pins σ H s → Vals vs us → t vs σ H Q →
    wpAny (model X.prog X.w) X.A (assignInOrder ((assignEach ts X.env).map (·.2)) us) (fun _ s' => s'.gens = s.gens ∧ ∃ σ' H', Inv X pins σ' H' s' ∧ Q σ' H') X.xe s
end
section
variable {X : Cx} {pos : Pos} {a b c e : Expr} {ta tb tc te : TE}
theorem pvg (i : Nat) {x : Str} (hN : X.N[i]? = some x := by rfl) (hv : Vis X.env.scope x := by first | exact Or.inl rfl | exact Or.inr (Or.inl rfl) | exact Or.inr (Or.inr rfl)) (hd : (x == ("__debug__" : Str)) = false := by decide)
    (hcd : (x == ("__classdict__" : Str)) = false := by decide) : PEg X (.Name x pos) (dVar i) := by
  refine ⟨fun pins s σ H Q I h => ?_⟩
  unfold dVar onSome at h
  cases e : nth σ i with
  | none => rw [e] at h; exact h.elim
  | some v =>
    rw [e] at h
    obtain ⟨m, hn, hl⟩ := I.loc
    obtain ⟨u, r, l⟩ := hl i x v hN (nth_ok e) hv
    have fin : s.gens = s.gens ∧ EP X pins σ Q u s := ⟨rfl, v, H, I, r, h⟩
    rcases l with ⟨hk, hm⟩ | ⟨hk, c, hc, hcell⟩
    · exact wpAny_Name (wpAny_loadName_local I.ok.kind hk hn hm fin) hd
    · rcases hk with hk | hk
      · exact wpAny_Name (wpAny_loadName_cell I.ok.kind hk hc hcell fin) hd
      · exact wpAny_Name (wpAny_loadName_free I.ok.kind hk hc hcell fin hcd) hd
theorem peg_int {i : Int} {j : Nat} : PEg X (.Constant (.int i) j pos) (tC (.int i)) := ⟨fun _ _ _ H _ I h => wpAny_Constant_int ⟨rfl, .int i, H, I.tok _, ⟨_, rfl⟩, h⟩⟩
theorem og_add {r : R2} (e : r = oI0 (fun i j => i + j)) : OpRg X (binaryOp .Add) r := fun pins s σ H x y v u Q I rx ry q => by
  subst e
  cases x <;> cases y <;> try exact q.elim
  rename_i i j
  obtain ⟨t, rfl⟩ := rx
  obtain ⟨t', rfl⟩ := ry
  exact add_int ⟨rfl, .int (i + j), H, I.tok _, ⟨_, rfl⟩, q⟩
theorem og_sub : OpRg X (binaryOp .Sub) oSub := fun pins s σ H x y v u Q I rx ry q => by
  cases x <;> cases y <;> try exact q.elim
  rename_i i j
  obtain ⟨t, rfl⟩ := rx
  obtain ⟨t', rfl⟩ := ry
  exact PyProof.Rows.sub_int ⟨rfl, .int (i - j), H, I.tok _, ⟨_, rfl⟩, q⟩
/-- + of two numbers alone -/
theorem og_addK {K : Frag} : OpRg X (binaryOp .Add) (fun x y H Q => int2 (fun i j => oAdd K (.int i) (.int j) H Q) x y) := fun pins s σ H x y v u Q I rx ry q => by
  cases x <;> cases y <;> try exact q.elim
  rename_i i j
  obtain ⟨t, rfl⟩ := rx
  obtain ⟨t', rfl⟩ := ry
  exact add_int ⟨rfl, .int (i + j), H, I.tok _, ⟨_, rfl⟩, q⟩
theorem og_lt : OpRg X (compareOp .Lt) oLt := fun pins s σ H x y v u Q I rx ry q => by
  cases x <;> cases y <;> try exact q.elim
  rename_i i j
  obtain ⟨t, rfl⟩ := rx
  obtain ⟨t', rfl⟩ := ry
  exact lt_int ⟨rfl, .bl (decide (i < j)), H, I, rfl, q⟩
theorem og_le : OpRg X (compareOp .LtE) oLe := fun pins s σ H x y v u Q I rx ry q => by
  cases x <;> cases y <;> try exact q.elim
  rename_i i j
  obtain ⟨t, rfl⟩ := rx
  obtain ⟨t', rfl⟩ := ry
  exact le_int ⟨rfl, .bl (decide (i ≤ j)), H, I, rfl, q⟩
theorem peg_op {op : Operator} {r : R2} (ho : OpRg X (binaryOp op) r) (ha : PEg X a ta) (hb : PEg X b tb) : PEg X (.BinOp a op b pos) (tOp r ta tb) := by
  refine ⟨fun pins s σ H Q I h => ?_⟩
  refine wpAny_BinOp (thn (ha.run pins s σ H _ I h) fun v s1 ⟨g1, x, H1, I1, r1, q1⟩ => thn (hb.run pins s1 σ H1 _ I1 q1) fun u s2 ⟨g2, y, H2, I2, r2, q2⟩ => thn (ho pins s2 σ H2 x y v u Q I2 r1 r2 q2) fun w s3 ⟨g3, q3⟩ => ⟨?_, q3⟩)
  rw [g3, g2, g1]
theorem ptg_chain {op op' : CmpOp} {r r' : R2} (ho : OpRg X (compareOp op) r) (ho' : OpRg X (compareOp op') r') (ha : PEg X a ta) (hb : PEg X b tb) (hc : PEg X c tc)
    (hm : lastMarks [op, op'] [b, c] = false := by with_unfolding_all rfl) : PTg X (.Compare a [op, op'] [b, c] pos) (dChainT r r' ta tb tc) := by
  refine ⟨fun pins s σ H Q I h => ?_⟩
  refine isTrue_chain (thn (ha.run pins s σ H _ I h) fun v s1 ⟨g1, x, H1, I1, r1, q1⟩ => test_link (thn (hb.run pins s1 σ H1 _ I1 q1) fun u s2 ⟨g2, y, H2, I2, r2, q2⟩ =>
    thn (ho pins s2 σ H2 x y v u _ I2 r1 r2 q2) fun d s3 ⟨g3, z, H3, I3, r3, q3⟩ => ?_)) hm
  obtain ⟨k, e, q3⟩ := isB_ex q3
  subst e
  cases r3
  have gg : s3.gens = s.gens := by rw [g3, g2, g1]
  refine wpAny_truthy_bool ?_
  cases k with
  | false => exact ite_ff ⟨gg, H3, I3, q3⟩
  | true =>
    refine ite_tt (test_last (thn (hc.run pins s3 σ H3 _ I3 q3) fun w' s4 ⟨g4, z', H4, I4, r4, q4⟩ => thn (ho' pins s4 σ H4 y z' u w' _ I4 r2 r4 q4) fun d' s5 ⟨g5, z2, H5, I5, r5, q5⟩ => ?_))
    obtain ⟨k2, e2, q5⟩ := isB_ex q5
    subst e2
    cases r5
    exact wpAny_truthy_bool ⟨by rw [g5, g4]; exact gg, H5, I5, q5⟩
theorem psg_if {sa sb : List Stmt} {tt : TT} {t u : TS} (hc : PTg X c tt) (ha : PSsg X sa t) (hb : PSsg X sb u) : PSg X (.If c sa sb pos) (dIfS tt t u) := by
  refine ⟨fun pins s σ H D I h => ?_⟩
  refine wpAny_If (thn (hc.run pins s σ H _ I h) fun d s1 ⟨g1, H1, I1, q1⟩ => ?_)
  cases d with
  | true => exact thn (ha.run pins s1 σ H1 D I1 q1) fun _ _ ⟨g2, q⟩ => ⟨g2.trans g1, q⟩
  | false => exact thn (hb.run pins s1 σ H1 D I1 q1) fun _ _ ⟨g2, q⟩ => ⟨g2.trans g1, q⟩
theorem pssg_nil : PSsg X [] tNext := ⟨fun _ _ σ H _ I h => wpAny_execs_nil ⟨rfl, σ, H, I, h⟩⟩
theorem pssg_cons {st : Stmt} {rest : List Stmt} {t u : TS} (h1 : PSg X st t) (h2 : PSsg X rest u) : PSsg X (st :: rest) (tSeq t u) := by
  refine ⟨fun pins s σ H D I h => ?_⟩
  refine wpAny_execs_cons (thn (h1.run pins s σ H { D with nx := u D } I h) fun f s1 ⟨g1, q⟩ => ?_)
  cases f with
  | next =>
    obtain ⟨σ', H', I', q⟩ := q
    exact thn (h2.run pins s1 σ' H' D I' q) fun _ _ ⟨g2, q⟩ => ⟨g2.trans g1, q⟩
  | ret v => exact ⟨g1, q⟩
  | brk => exact ⟨g1, q⟩
  | cont => exact ⟨g1, q⟩
theorem pssg_one {st : Stmt} {t : TS} (h1 : PSg X st t) : PSsg X [st] t := by
  have h2 := pssg_cons h1 (pssg_nil (X := X))
  exact ⟨fun pins s σ H D I h => h2.run pins s σ H D I h⟩
theorem pssg_stop {st : List Stmt} {t : TS} (h : PSsg X st t) : PSsg X st (stop t) := ⟨fun pins s σ H D I q => h.run pins s σ H D I q.go⟩
/-- a local name is stored -/
theorem store_g {pins : List (Addr × Obj)} {σ : L2.St} {H : Hp} {s : Shared} {i : Nat} {x : Str} {v : V} {u : Value} {Q : Unit → Shared → Prop} (I : Inv X pins σ H s) (hN : X.N.Nodup) (hi : X.N[i]? = some x) (hk : X.env.scope.names.lookup x = some .local) (r : RelV v u)
    (h : ∀ s', s'.gens = s.gens → Inv X pins (σ.set i (some v)) H s' → Q () s') : wpAny (model X.prog X.w) X.A (storeName X.env x u) Q X.xe s := by
  obtain ⟨m, hn, hl⟩ := id I.loc
  have hcls : (X.env.scope.kind == .class || (X.env.scope.kind == .module && X.env.locals != X.env.globals)) = false := by rw [I.ok.kind]; rfl
  have hiσ : i < σ.length := by rw [I.len]; exact (List.getElem?_eq_some_iff.mp hi).1
  have cne := I.cne
  refine wpAny_storeName_local hk hn (fun h' hn' hs => ?_) hcls
  obtain ⟨oL, _, _, hoL, _⟩ := id hn
  have old : ∀ q o, X.s_0.heap.get? q = some o → q ≠ X.env.locals := fun q o e => Nat.ne_of_lt (Nat.lt_of_lt_of_le (Heap.lt_size e) I.ok.above)
  have nl : ∀ q o, H q = some o → q ≠ X.env.locals := fun q o e z => by rw [z, I.free] at e; cases e
  refine h _ rfl ⟨I.ok, I.os, I.bare, ⟨fun q o e n hb hx => (hs.2 q (old q o e)).trans (I.base.keep q o e n hb hx), fun q o e n hb hx => ?_, I.base.free, fun q o e hx => ?_, I.base.tups, I.base.frzs, I.base.tbls⟩, ⟨_, hn', fun j y v' e1 e2 e3 => ?_⟩, fun y c e => ?_, I.free, I.freeC, fun p hp => ?_, fun q o e => ?_, by simpa using I.len⟩
  · obtain ⟨sl, e1⟩ := I.base.slot q o e n hb hx
    exact ⟨sl, (hs.2 q (old q o e)).trans e1⟩
  · obtain ⟨o', e1⟩ := I.base.there q o e hx
    exact ⟨o', (hs.2 q (old q o e)).trans e1⟩
  · by_cases hj : j = i
    · subst hj
      rw [hi] at e1
      cases e1
      rw [List.getElem?_set_self hiσ] at e2
      cases e2
      exact ⟨u, r, .inl ⟨hk, by simp⟩⟩
    · rw [List.getElem?_set_ne (Ne.symm hj)] at e2
      obtain ⟨u', r', q⟩ := hl j y v' e1 e2 e3
      refine ⟨u', r', q.imp (fun ⟨k, e⟩ => ⟨k, ?_⟩) fun ⟨k, c, e, z⟩ => ⟨k, c, e, z.sameBut hs (cne y c e)⟩⟩
      have : y ≠ x := fun e => hj (nodup_ix hN e1 (e ▸ hi))
      simp [this, e]
  · obtain ⟨w', z⟩ := I.cell y c e
    exact ⟨w', z.sameBut hs (cne y c e)⟩
  · obtain ⟨e, n, ne, nf, d⟩ := I.pin p hp
    exact ⟨(hs.2 p.1 ne).trans e, n, ne, nf, d⟩
  · refine (I.hok q o e).stay (fun c w' hc z => (hs.2 c ?_).trans z) (fun _ z => z) fun _ _ z => z
    rcases hc with hc | hc
    · rw [hc]; exact nl q o e
    · exact nl c _ hc
theorem psg_set {i : Nat} {x : Str} {pos' : Pos} (hN : X.N.Nodup) (hi : X.N[i]? = some x) (hx : Loc X.env.scope x) (he : PEg X e te) (hs : swapsWith e (some (.Name x pos')) pos.line X.env = pure false := by rfl) (hf : X.env.scope.names.lookup x = some .local := by rfl) :
    PSg X (.Assign [.Name x pos'] e pos) (tAsg te (gName i)) := by
  refine ⟨fun pins s σ H D I h => ?_⟩
  refine wpAny_Assign_Name (thn (he.run pins s σ H _ I h) fun v s1 ⟨g1, y, H1, I1, r1, q1⟩ => ?_) hs
  exact store_g I1 hN hi hf r1 fun s2 g2 I2 => ⟨g2.trans g1, _, H1, I2, q1⟩
theorem pgg_name {i : Nat} {x : Str} (hN : X.N.Nodup) (hi : X.N[i]? = some x) (hx : Loc X.env.scope x) (hf : X.env.scope.names.lookup x = some .local := by rfl) : PGg X (.Name x pos) (gName i) := by
  refine ⟨fun pins s σ H v u Q I r h => ?_⟩
  exact wpAny_assign_Name (store_g I hN hi hf r fun s' g' I' => ⟨g', _, H, I', h⟩)
theorem pgsg_nil : PGsg X [] gNil := by
  refine ⟨fun pins s σ H vs us Q I r h => ?_⟩
  obtain ⟨e, h⟩ := h
  subst e
  cases r
  exact assignInOrder_nil ⟨rfl, σ, H, I, h⟩
theorem pgsg_cons {es : List Expr} {t : TG} {u : TGs} (h1 : PGg X e t) (h2 : PGsg X es u)
    (hs : (assignEach (e :: es) X.env).map (·.2) = assign e X.env :: (assignEach es X.env).map (·.2) := by rfl) : PGsg X (e :: es) (gCons t u) := by
  refine ⟨fun pins s σ H vs us Q I r h => ?_⟩
  obtain ⟨v, vr, e1, h⟩ := h
  subst e1
  cases r with
  | cons r rr =>
    rw [hs]
    refine assignInOrder_cons (thn (h1.run pins s σ H _ _ _ I r h) fun _ s1 ⟨g1, σ1, H1, I1, q1⟩ => ?_)
    exact thn (h2.run pins s1 σ1 H1 _ _ Q I1 rr q1) fun _ _ ⟨g2, q⟩ => ⟨g2.trans g1, q⟩
theorem pgg_tup {es : List Expr} {k : Nat} {t : TGs} {n : Nat} (hc : X.calm = true) (h : PGsg X es t)
    (hn : (assignEach es X.env).length = n := by rfl) (hst : (assignEach es X.env).findIdx? (·.1) = none := by rfl) : PGg X (.Tuple es k pos) (gTup X.K n t) := by
  refine ⟨fun pins s σ H v u Q I r hw => ?_⟩
  obtain ⟨a, xs, e1, hq, hl, hw⟩ := hw
  subst e1
  cases r
  obtain ⟨its, rv, ht, hz⟩ := I.tuple hq
  refine assign_Tuple_tuple (I.ok.hd hc) ht (by simp [hn, ← hl, rv.length]) hst fun h' hx => ?_
  have I1 : Inv X pins σ H { s with heap := h' } := I.kept (t' := s.toks) fun b o e => hx b o (Nat.ne_of_lt (Heap.lt_size e)) e
  exact h.run pins _ σ H xs _ Q I1 (by simpa using rv) hw
end
end S
namespace S
open PySem PySem.Spec PyProof.Rows L2
/-- + of two numbers -/
def oAddI : R2 := oI0 fun i j => i + j
end S
namespace S
open PySem PySem.Spec PyProof.Rows L2 GenW
section
variable {X : Cx} {pins : List (Addr × Obj)} {σ : L2.St} {H H' : Hp} {s s' : Shared}
theorem inv_gens (I : Inv X pins σ H s) {g : Nat} {x : GenState} (hx : x.bare = true) : Inv X pins σ H (s.setGen g x) :=
  ⟨I.ok, I.os, allBare_setGen I.bare hx, I.base, I.loc, I.cell, I.free, I.freeC, I.pin, I.hok, I.len⟩
theorem stk_mem (I : Inv X pins σ H s) {q : Addr} (h : q ∉ X.fs) (h2 : q ≠ X.env.locals) : q ∉ frs X.stack := fun z => (List.mem_cons.mp (I.stkSub q z)).elim h2 h
/-- behind a run that promises for the n oldest objects -/
theorem inv_far {n : Nat} (I : Inv X pins σ H s) (hx : ∀ b, b ∉ X.ex) (hL : X.env.locals < n) (hcell : ∀ x c, X.env.cells.lookup x = some c → c < n ∧ c ∉ frs X.stack) (hp : ∀ p ∈ X.pn ++ pins, p.1 < n) (u : Un (frs X.stack) [] H H' (cut0 s.heap n) s'.heap) (os : s'.os = s.os) (hok : HOk X.prog X.w H' s'.heap) (hb : AllBare s'.gens) :
    Inv X pins σ H' s' := by
  have ne : ∀ q : Addr, q ∉ ([] : List Addr) := fun q z => by cases z
  have old : ∀ {q : Addr} {o : Obj}, X.s_0.heap.get? q = some o → q < n := fun {q o} e => Nat.lt_of_lt_of_le (Heap.lt_size e) (Nat.le_trans I.ok.above (Nat.le_of_lt hL))
  have nl : ∀ {q : Addr} {o : Obj}, X.s_0.heap.get? q = some o → q ≠ X.env.locals := fun {q o} e => Nat.ne_of_lt (Nat.lt_of_lt_of_le (Heap.lt_size e) I.ok.above)
  obtain ⟨m, ⟨oL, es, ep, hoL, hd, hr⟩, hl⟩ := id I.loc
  obtain ⟨sl, hoL'⟩ := u.any (cut0_at hL hoL) I.free (ne _)
  have cellK : ∀ x c, X.env.cells.lookup x = some c → ∀ v, s.heap.IsCell c v → s'.heap.IsCell c v := fun x c e v ⟨o, ho, hdd⟩ => ⟨o, u.keep c o (cut0_at (hcell x c e).1 ho) (I.freeC x c e) (hcell x c e).2 (ne _), hdd⟩
  refine ⟨I.ok, os.trans I.os, hb, ⟨fun q o e h1 h2 h3 => ?_, fun q o e h1 h2 h3 => ?_, fun q o e h1 h3 => ?_, fun q o e h3 => ?_, fun q xs e => u.tups q xs (I.base.tups q xs e), fun q o w e => u.frzs q o w (I.base.frzs q o w e), fun q ps e => ?_⟩, ⟨m, ⟨_, es, ep, hoL', hd, hr⟩, fun i x v e1 e2 e3 => ?_⟩, fun x c e => ?_, ?_, fun x c e => ?_, fun p h => ?_, hok, I.len⟩
  · exact u.keep q o (cut0_at (old e) (I.base.keep q o e h1 h2 h3)) (I.base.free q o e h1 h3) (stk_mem I h2 (nl e)) (ne _)
  · obtain ⟨sl1, e1⟩ := I.base.slot q o e h1 h2 h3
    obtain ⟨sl2, e2⟩ := u.any (cut0_at (old e) e1) (I.base.free q o e h1 h3) (ne _)
    exact ⟨sl2, e2⟩
  · obtain ⟨o', e1⟩ := I.base.there q o e h3
    exact u.free q o' (cut0_at (old e) e1) (I.base.free q o e h1 h3) (ne _)
  · obtain ⟨o', e1⟩ := I.base.there q o e h3
    exact u.there q o' (cut0_at (old e) e1) (ne _)
  · obtain ⟨m1, e1⟩ := I.base.tbls q ps e
    obtain ⟨m2, e2⟩ := u.tbls q _ e1
    exact ⟨m1 ++ m2, by rw [e2, Array.append_assoc]⟩
  · obtain ⟨u', r, l⟩ := hl i x v e1 e2 e3
    exact ⟨u', r, l.imp (fun z => z) fun ⟨k, c, e, z⟩ => ⟨k, c, e, cellK x c e _ z⟩⟩
  · obtain ⟨v, z⟩ := I.cell x c e
    exact ⟨v, cellK x c e v z⟩
  · exact u.free _ oL (cut0_at hL hoL) I.free (ne _)
  · obtain ⟨v, o, ho, _⟩ := I.cell x c e
    exact u.free c o (cut0_at (hcell x c e).1 ho) (I.freeC x c e) (ne _)
  · obtain ⟨k1, k2, k3, k4, k5⟩ := I.pin p h
    exact ⟨u.keep p.1 p.2 (cut0_at (hp p h) k1) k2 (stk_mem I k4 k3) (ne _), u.free p.1 p.2 (cut0_at (hp p h) k1) k2 (ne _), k3, k4, k5⟩
end
/-- a generator that a loop walks -/
abbrev TGenF := TurnK → (List V → Hp → Prop) → L2.St → Hp → Prop
structure PGenF (X : Cx) (k : Nat) (e : Expr) (tg : TGenF) : Prop where
  run : ∀ (pins : List (Addr × Obj)) (s : Shared) (σ : L2.St) (H : Hp) (Kc : TurnK) (Q : List V → Hp → Prop), Inv X pins σ H s → tg Kc Q σ H →
    wpAny (model X.prog X.w) X.A (eval e X.env) (fun u s' => ∃ H1 sc, Inv X pins σ H1 sc ∧ GMadeF X.prog X.w X.K X.mg X.base k X.stack H1 sc Kc Q u s') X.xe s
/-- o.m(), o an instance with slots -/
def tMethFS (K : Frag) (c : Str) (sp : SpF) (ta : TE) : TGenF := fun Kc Q σ H => ta σ H fun x H1 => match x with
  | .ref a => IsO K H1 c a (sp [.ref a] H1 Kc Q)
  | _ => False
theorem pgenF_meth0 {X : Cx} {k : Nat} {g : Addr} {sp : SpF} {c m : Str} {pos apos : Pos} {o : Expr} {ta : TE} {pl : Sem Bool} (hc : SlX.SCls X.K (He.ga X.K c)) (hm : Meth X.K (He.ga X.K c) m g) (F : GFF X.prog X.w X.K X.mg X.base k g sp) (hr : Room k X.A) (he : PE X o ta)
    (ht : eval (.Call (.Attribute o m apos) [] [] pos) X.env = (do
      let ov ← eval o X.env
      standAt apos.atName
      let (f, first) ← holding [ov] (getMethod ov m pl)
      callWith pos f first (backTo pos (starEach [] X.env)) (backToKw pos (keywordEach [] X.env))) := by rfl) :
    PGenF X k (.Call (.Attribute o m apos) [] [] pos) (tMethFS X.K c sp ta) := by
  refine ⟨fun pins s σ H Kc Q I h => ?_⟩
  refine PySem.W.methodCall_KW (pl := pl) (thn (he.run pins s σ H _ I h) fun u s1 ⟨x, H1, I1, rx, q⟩ => ?_) ht
  cases x <;> try exact q.elim
  cases rx
  obtain ⟨⟨dx, vs, hsl⟩, q⟩ := q
  refine SlX.getmethsl_ok I1 hsl hc hm ?_
  refine PySem.W.callWith_K0 (first := [.ref _]) I1.kIn hm.kp (wpAny_call (codeAny_mono (F.run X.A X.stack s1 H1 [.ref _] [.ref _] Kc Q hr I1.env0 (.cons rfl .nil) q) fun r s2 hq => ?_))
  cases r with
  | error e => exact False.elim hq
  | ok fl =>
    cases fl with
    | ret u => exact ⟨H1, s1, I1, hq⟩
    | next => exact False.elim hq
    | brk => exact False.elim hq
    | cont => exact False.elim hq
/-- the loop: W tells the slots by what was handed out -/
structure LpF (tg : TGenF) (g : TG) (tb : TS) (D : Ends) (σ : L2.St) (H : Hp) : Prop where
  ex : ∃ W : List V → L2.St → Prop, W [] σ ∧ tg (fun ys x H1 post => ∀ σ1, W ys σ1 → g x σ1 H1 fun σ2 H2 => tb { D with nx := fun σ3 H3 => W (ys ++ [x]) σ3 ∧ post H3, ct := fun σ3 H3 => W (ys ++ [x]) σ3 ∧ post H3, bk := D.nx } σ2 H2) (fun ys H1 => ∀ σ1, W ys σ1 → D.nx σ1 H1) σ H
def dForF (tg : TGenF) (g : TG) (tb : TS) : TS := fun D σ H => LpF tg g tb D σ H
theorem ps_forF {X : Cx} {k : Nat} {tgt iter : Expr} {body : List Stmt} {tg : TGenF} {g : TG} {tb : TS} {pos : Pos} (hp : PassesOwn (model X.prog X.w) X.A X.env X.xe) (hc : X.calm = true) (hi : PGenF X k iter tg) (hr : Room (k + 1) X.A) (hg : PGg X tgt g) (hb : PSsg X body tb) (hnc : ∀ x, X.env.cells.lookup x = none)
    (hst : X.stack = X.env :: X.outer := by rfl) (hfr : X.env.frame = some X.env.locals := by rfl) (hex : X.ex = [] := by rfl) (hs : ∀ x, foldedSetIterable iter X.env x = pure x := by intro _; rfl) : PS X (.For tgt iter body [] pos) (dForF tg g tb) := by
  refine ⟨fun pins s σ H D I h => ?_⟩
  obtain ⟨W, w0, h⟩ := h.ex
  refine wpAny_For (thn (hi.run pins s σ H _ _ I h) fun u s1 ⟨H1, sc, I1, hG⟩ => ?_) hs
  obtain ⟨a, gn, c, rfl, ha, hgen, hgs, hos, hbare, hlim, hkp, wake⟩ := hG
  refine wpAny_pyIter_gen hgen ?_
  have hx : ∀ b, b ∉ X.ex := fun b z => by rw [hex] at z; cases z
  have mF : ∀ q, q ∈ X.env.locals :: X.fs → q ∈ frs X.stack := fun q hq => by
    rw [hst]
    unfold frs
    rw [List.filterMap_cons, hfr]
    exact hq
  have hL : X.env.locals < sc.heap.objs.size := I1.lt
  have hcell : ∀ x c, X.env.cells.lookup x = some c → c < sc.heap.objs.size ∧ c ∉ frs X.stack := fun x c e => by rw [hnc] at e; cases e
  have hpn : ∀ p ∈ X.pn ++ pins, p.1 < sc.heap.objs.size := fun p hp => Heap.lt_size (I1.pin p hp).1
  have I2 : Inv X pins σ H1 s1 := I1.call' (ch := []) hos (Un.kept hkp) (I1.hok.kept hkp) hbare fun b z => by simp at z
  have hr1 : Room k X.A.in1 := hr.in1
  have hdp : X.A.depth < recursionLimit := by have := hr.dp; omega
  refine codeAny_forLoop_any (fun n s' => ∃ ys σ' H' gs, Inv X pins σ' H' s' ∧ W ys σ' ∧ s'.heap.IsGen a gn ∧ s'.gens[gn]? = some gs ∧
    gs.Goes (model X.prog X.w) X.A.in1 (REnF X.prog X.w X.stack sc.heap.objs.size (fun ys s H => ∃ σ, Inv X pins σ H s ∧ W ys σ) (fun ys H1 => ∀ σ1, W ys σ1 → D.nx σ1 H1))
      (YItF X.prog X.w X.base X.stack sc.heap.objs.size a gn (fun ys s H => ∃ σ, Inv X pins σ H s ∧ W ys σ) (fun ys x H1 post => ∀ σ1, W ys σ1 → g x σ1 H1 fun σ2 H2 => tb { D with nx := fun σ3 H3 => W (ys ++ [x]) σ3 ∧ post H3, ct := fun σ3 H3 => W (ys ++ [x]) σ3 ∧ post H3, bk := D.nx } σ2 H2)) n (.send .none) (s'.setGen gn .running)) ?_ sizeLine ?_
  · rintro n s3 ⟨ys, σ3, H3, gs, I3, w3, hg3, hgs3, hgo⟩
    have hgl : gn < s3.gens.size := (Array.getElem?_eq_some_iff.mp hgs3).1
    refine wpAny_gsz (n := gn + 1) hgl (next_genG (I3.ok.hd hc) I3.nolimit hdp hg3 hgs3 hgo (fun v s4 gs' hbr hy => ?_) (fun s4 hf h' hk => ?_) fun e s4 he => he.elim)
    · intro hsz
      obtain ⟨ys', x, H0, H4, gp, post, hn, rv, ⟨σ0, J0, w0'⟩, os4, b4, lim4, gen4, un4, hok4, hgp, ⟨ao, hao⟩, hk, hw⟩ := hy
      have sz4 : gn < (s4.setGen gn gs').gens.size := hsz
      have J1 : Inv X pins σ0 H4 s4 := inv_far J0 hx hL hcell hpn un4 os4 hok4 b4
      have J2 : Inv X pins σ0 H4 (s4.setGen gn gs') := inv_gens J1 hbr
      have J3 : Inv X (pins ++ gp) σ0 H4 (s4.setGen gn gs') := J2.pins_of fun p hp => by
        rcases List.mem_append.mp hp with z | z
        · exact J2.pin p (List.mem_append_right _ z)
        · obtain ⟨q1, q2, q3, q4⟩ := hgp p z
          exact ⟨q1, q2, fun e => q3 (mF _ (by rw [e]; exact List.mem_cons_self)), fun e => q3 (mF _ (List.mem_cons_of_mem _ e)), q4⟩
      obtain ⟨o, nm, qn, ho, hcls, hdat, hsl⟩ := id gen4
      refine go_of (n := "generator") (by exact ho) hcls hdat (by decide) ?_
      refine wpAny_passesOwn hp (thn (hg.run _ _ σ0 H4 x v _ J3 rv (hk σ0 w0')) fun _ s5 ⟨g5, σ5, H5, I5, q5⟩ => ?_)
      refine wpAny_passesOwn hp (thn (hb.run _ s5 σ5 H5 _ I5 q5) fun f s6 ⟨g6, q6⟩ => ?_)
      have gg : s6.gens = (s4.setGen gn gs').gens := g6.trans g5
      have again : ∀ {σ7 : L2.St} {H7 : Hp}, Inv X (pins ++ gp) σ7 H7 s6 → W (ys' ++ [x]) σ7 ∧ post H7 → ∃ m, m < n ∧ ∃ ys σ' H' gs, Inv X pins σ' H' s6 ∧ W ys σ' ∧ s6.heap.IsGen a gn ∧ s6.gens[gn]? = some gs ∧
          gs.Goes (model X.prog X.w) X.A.in1 (REnF X.prog X.w X.stack sc.heap.objs.size (fun ys s H => ∃ σ, Inv X pins σ H s ∧ W ys σ) (fun ys H1 => ∀ σ1, W ys σ1 → D.nx σ1 H1))
            (YItF X.prog X.w X.base X.stack sc.heap.objs.size a gn (fun ys s H => ∃ σ, Inv X pins σ H s ∧ W ys σ) (fun ys x H1 post => ∀ σ1, W ys σ1 → g x σ1 H1 fun σ2 H2 => tb { D with nx := fun σ3 H3 => W (ys ++ [x]) σ3 ∧ post H3, ct := fun σ3 H3 => W (ys ++ [x]) σ3 ∧ post H3, bk := D.nx } σ2 H2)) m (.send .none) (s6.setGen gn .running) := by
        intro σ7 H7 I7 ⟨w7, p7⟩
        have I8 : Inv X pins σ7 H7 s6 := I7.unpinned
        have I9 : Inv X pins σ7 H7 (s6.setGen gn .running) := inv_gens I8 rfl
        have pin : ∀ p ∈ gp, s6.heap.get? p.1 = some p.2 ∧ H7 p.1 = none := fun p hp => by
          obtain ⟨k1, k2, _⟩ := I7.pin p (List.mem_append_right _ (List.mem_append_right _ hp))
          exact ⟨k1, k2⟩
        have e0 := I9.env0
        have wk : Wok0 X.prog X.w X.base X.stack gp (s6.setGen gn .running) H7 := ⟨e0.bare, e0.bs, e0.bsz, e0.funs, e0.frf, e0.hok, pin⟩
        have fin := hw (s6.setGen gn .running) H7 wk ⟨σ7, I9, w7⟩ p7
        cases n with
        | zero => exact fin.elim
        | succ m =>
          refine ⟨m, Nat.lt_succ_self _, ys' ++ [x], σ7, H7, gs', I8, w7, ?_, ?_, fin⟩
          · have k1 := (pin (a, ao) hao).1
            have k2 := (hgp (a, ao) hao).1
            have k2 : s4.heap.get? a = some ao := k2
            rw [ho] at k2
            cases k2
            exact ⟨_, nm, qn, k1, hcls, hdat, hsl⟩
          · rw [gg]
            exact setGen_at (by rw [setGen_size] at sz4; exact sz4)
      cases f with
      | next => obtain ⟨σ7, H7, I7, n7⟩ := q6; exact again I7 n7
      | cont => obtain ⟨σ7, H7, I7, n7⟩ := q6; exact again I7 n7
      | brk => obtain ⟨σ7, H7, I7, q7⟩ := q6; exact ⟨σ7, H7, I7.unpinned, q7⟩
      | ret v => obtain ⟨x7, σ7, H7, I7, r7, q7⟩ := q6; exact ⟨x7, σ7, H7, I7.unpinned, r7, q7⟩
    · intro hsz
      obtain ⟨ys', H0, H4, ⟨σ0, J0, w0'⟩, os4, b4, un4, hok4, hQ⟩ := hf
      have J1 : Inv X pins σ0 H4 s4 := inv_far J0 hx hL hcell hpn un4 os4 hok4 b4
      have J2 : Inv X pins σ0 H4 (s4.setGen gn .finished) := inv_gens J1 rfl
      exact wpAny_execs_nil ⟨σ0, H4, J2.kept (h' := h') (t' := s4.toks) hk, hQ σ0 w0'⟩
  · refine ⟨[], σ, H1, .fresh c, I2, w0, hgen, hgs, rfl, ?_⟩
    have I3 : Inv X pins σ H1 (s1.setGen gn .running) := inv_gens I2 rfl
    refine wake X.A.in1 _ (s1.setGen gn .running) hr1 I1.ok.frames ?_ rfl rfl ⟨σ, I3, w0⟩
    have e0 := I3.env0
    exact ⟨e0.frames, e0.mod, e0.bs, e0.bsz, e0.funs, e0.frf, e0.hok, e0.bare⟩
end S
namespace S
open PySem PySem.Spec PyProof.Rows L2
/-- the turns of range(i, j, c) -/
structure RngS (i j c : Int) (k : Nat → Prop) : Prop where
  ex : ∃ n, RgC i j c n ∧ k n
theorem RngS.up {j c : Int} {k : Nat → Prop} (c1 : 1 ≤ c) (c2 : c < 1000000) (j0 : 0 ≤ j) (j1 : j < 2 ^ 60) (q : k ((j + c - 1) / c).toNat) : RngS 0 j c k := by
  refine ⟨_, ⟨by omega, by omega, ?_, ?_⟩, q⟩
  · unfold Builtin.Range.small
    have e := rangeSize_pos c1 j0
    have h1 : (j + c - 1) / c ≤ j + c - 1 := Int.ediv_le_self c (by omega)
    have h0 : 0 ≤ (j + c - 1) / c := Int.ediv_nonneg (by omega) (by omega)
    rw [e]
    simp only [Builtin.Range.rangeFitsLong, Bool.and_eq_true, Bool.or_eq_true, decide_eq_true_eq, beq_iff_eq]
    have c0 : c > 0 := by omega
    simp only [c0, if_true]
    refine ⟨by omega, .inr ?_⟩
    rw [Bool.and_eq_true, decide_eq_true_eq, decide_eq_true_eq]
    omega
  · rw [rangeSize_pos c1 j0]
    exact (Int.toNat_of_nonneg (Int.ediv_nonneg (by omega) (by omega))).symm
def iR3S (vs : List V) (H : Hp) (R : It → Hp → Prop) : Prop := match vs with
  | [.int i, .int j, .int c] => RngS i j c fun n => R (Itc i c n) H
  | _ => False
def iRngS (ta : TA) : TI := fun σ H R => ta σ H fun vs H1 => iR3S vs H1 R
theorem iR3S_eq {R : It → Hp → Prop} : (fun (vs : List V) (H : Hp) => iR3S vs H R) = fun vs H => ∃ (i j c : Int) (n : Nat), vs = [.int i, .int j, .int c] ∧ RgC i j c n ∧ R (Itc i c n) H := by
  funext vs H
  refine propext ⟨fun q => ?_, fun ⟨i, j, c, n, e, h, q⟩ => by subst e; exact ⟨n, h, q⟩⟩
  match vs, q with
  | [.int i, .int j, .int c], ⟨n, h, q⟩ => exact ⟨i, j, c, n, rfl, h, q⟩
theorem pi_rngS {X : Cx} {tg a b c : Expr} {ta : TA} {p pos : Pos} (hg : Gl X "range") (hm : X.mg "range" = none) (ha : PA X [a, b, c] ta)
    (hs : starEach [a, b, c] X.env = (false, eval a X.env) :: starEach [b, c] X.env := by rfl) (hpl : (backTo pos (starEach [b, c] X.env)).any (·.1) = false := by rfl) :
    PI X tg (.Call (.Name "range" p) [a, b, c] [] pos) (iRngS ta) := by
  have h := pi_range3 (tg := tg) (p := p) hg hm ha hs hpl
  refine ⟨fun pins s σ H R I q => h.run pins s σ H R I ?_⟩
  have q : ta σ H (fun vs H1 => iR3S vs H1 R) := q
  rw [iR3S_eq] at q
  exact q
theorem for_rngS {c : Int} {n : Nat} {g : TG} {tb : TS} {D : Ends} {σ : L2.St} {H : Hp} (Pv : Nat → L2.St → Hp → Prop) (h0 : Pv 0 σ H)
    (hs : ∀ (i : Nat) σ H, i < n → Pv i σ H → g (.int ((i : Nat) * c)) σ H fun σ2 H2 => tb { D with nx := Pv (i + 1), ct := Pv (i + 1), bk := D.nx } σ2 H2) (hd : ∀ σ H, Pv n σ H → D.nx σ H) :
    LoopR D g tb σ (Itc 0 c n) H := by
  refine L2.for_rangeC (lo := 0) Pv h0 (fun i σ H hi q => ?_) hd
  have z := hs i σ H hi q
  rw [Int.zero_add]; exact z
end S
namespace S
open PySem PySem.Spec PyProof.Rows L2
open Sem (wp)
/-! ### what is gone stays gone -/
structure DeadH (h h' : Heap) : Prop where
  sz : h.objs.size ≤ h'.objs.size
  no : ∀ a, a < h.objs.size → h.get? a = none → h'.get? a = none
theorem DeadH.refl (h : Heap) : DeadH h h := ⟨Nat.le_refl _, fun _ _ e => e⟩
theorem DeadH.trans {a b c : Heap} (h : DeadH a b) (k : DeadH b c) : DeadH a c := ⟨Nat.le_trans h.sz k.sz, fun x hx e => k.no x (Nat.lt_of_lt_of_le hx h.sz) (h.no x hx e)⟩
theorem dead_push (h : Heap) (o : Obj) : DeadH h (h.push o) := by
  refine ⟨by rw [Heap.size_push]; exact Nat.le_succ _, fun a ha e => ?_⟩
  rw [← e]
  obtain ⟨objs, l⟩ := h
  unfold Heap.get? Heap.push
  have ha : a < objs.size := ha
  dsimp only
  rw [Array.getElem?_push_lt ha]
  simp [ha]
theorem dead_update {h : Heap} {b : Addr} {f : Obj → Obj} (hb : (h.get? b).isSome) : DeadH h (h.update b f) := by
  have hsz : (h.update b f).objs.size = h.objs.size := by
    obtain ⟨objs, l⟩ := h
    show (objs.modify b f).size = _
    simp
  refine ⟨by rw [hsz]; exact Nat.le_refl _, fun a ha e => ?_⟩
  by_cases hab : a = b
  · rw [hab] at e
    rw [e] at hb
    cases hb
  · exact (Heap.get?_update_other _ _ (Ne.symm hab)).trans e
theorem runs_dead {M : Model} {Γ : PySem.Ctx} {p : Pos} {t : Sem PySem.Fin} {fs : List Frame} {s s' : Shared} {e : End} (h : Runs M Γ p t fs s e s') : DeadH s.heap s'.heap := by
  induction h <;> first
    | exact DeadH.refl _
    | (rename_i ih; exact ih)
    | (rename_i hb _ ih; exact (dead_update hb).trans ih)
    | (rename_i ih; exact (dead_push _ _).trans ih)
    | (rename_i ih1 ih2; exact DeadH.trans ih1 ih2)
    | (rename_i ih1 _ ih2; exact DeadH.trans ih1 ih2)
    | (rename_i ih1 _ _ ih2; exact DeadH.trans ih1 ih2)
theorem wakes_dead {M : Model} {Γ : PySem.Ctx} {p : Pos} {g : Nat} {r : Resume} {s s' : Shared} {res : GenResult} (h : Wakes M Γ p g r s res s') : DeadH s.heap s'.heap := by
  unfold Wakes at h
  split at h
  · exact h.elim
  · split at h
    · obtain ⟨_, _, hr, _, _, rfl⟩ := h
      have d := runs_dead hr
      exact d
    · rw [h.2]; exact DeadH.refl _
    · rw [h.2]; exact DeadH.refl _
  · obtain ⟨_, _, hr, _, _, rfl⟩ := h
    have d := runs_dead hr
    exact d
  · rw [h.2]; exact DeadH.refl _
  · rw [h.2]; exact DeadH.refl _
theorem wp_dead {α : Type} (M : Model) (Γ : PySem.Ctx) (h0 : Heap) (t : Sem α) : ∀ (Q : α → Pos → Shared → Prop) (E : Value → Pos → Shared → Prop) (p : Pos) (s : Shared), DeadH h0 s.heap → wp M Γ t Q E p s →
    wp M Γ t (fun a q z => DeadH h0 z.heap ∧ Q a q z) (fun x q z => DeadH h0 z.heap ∧ E x q z) p s := by
  induction t with
  | pure a => exact fun Q E p s d h => ⟨d, h⟩
  | raise x => exact fun Q E p s d h => ⟨d, h⟩
  | unsupported _ => exact fun Q E p s _ h => h
  | finish _ => exact fun Q E p s _ h => h
  | rule _ k ih => exact fun Q E p s d h => ih () Q E p s d h
  | «at» q k ih => exact fun Q E p s d h => ih () Q E q s d h
  | load a _ k ih => exact fun Q E p s d ⟨o, ho, h⟩ => ⟨o, ho, ih o Q E p s d h⟩
  | update a _ f k ih => exact fun Q E p s d h => ⟨h.1, ih () Q E p _ (d.trans (dead_update (by obtain ⟨h1, _⟩ := h; first | exact h1 | (obtain ⟨o, ho⟩ := h1; rw [ho]; rfl)))) h.2⟩
  | loadIfAlive a k ih => exact fun Q E p s d h => ih _ Q E p s d h
  | point _ k ih => exact fun Q E p s d h => ih () Q E p s d h
  | register _ _ => exact fun Q E p s _ h => h
  | alloc o k ih => exact fun Q E p s d h => ih _ Q E p _ (d.trans (dead_push _ _)) h
  | fresh k ih => exact fun Q E p s d h => ih _ Q E p _ d h
  | ask k ih => exact fun Q E p s d h => ih _ Q E p s d h
  | choose _ _ k ih => exact fun Q E p s d h => ⟨h.1, ih _ Q E p _ d h.2⟩
  | os _ _ k ih => exact fun Q E p s d h => ih _ Q E p _ d h
  | call _ _ _ _ k ih => exact fun Q E p s d ⟨r, z, hr, h⟩ => ⟨r, z, hr, ih r Q E p z (d.trans (runs_dead hr)) h⟩
  | handled _ k ih => exact fun Q E p s d h => ih _ Q E p s d h
  | genState _ k ih => exact fun Q E p s d ⟨st, hs, h⟩ => ⟨st, hs, ih _ Q E p s d h⟩
  | newGen _ k ih => exact fun Q E p s d h => ih _ Q E p _ d h
  | resume _ _ _ k ih => exact fun Q E p s d ⟨r, z, hw, h⟩ => ⟨r, z, hw, ih r Q E p z (d.trans (wakes_dead hw)) h⟩
  | yield _ _ _ _ => exact fun Q E p s _ h => h
  | stack k ih => exact fun Q E p s d h => ih _ Q E p s d h
  | fork _ _ => exact fun Q E p s _ h => h
  | thread k ih => exact fun Q E p s d h => ih _ Q E p s d h
  | await _ _ _ _ _ => exact fun Q E p s _ h => h
/-- what is said of the run besides -/
theorem wpAny_dead {α : Type} {M : Model} {A : Around} {s : Shared} {t : Sem α} {Q : α → Shared → Prop} {E : Value → Shared → Prop} (h : wpAny M A t (fun a s' => DeadH s.heap s'.heap → Q a s') E s) : wpAny M A t Q E s :=
  wpAny_mono (fun Γ p hΓ => wp_dead M Γ s.heap t _ _ p s (DeadH.refl _) (h Γ p hΓ) : wpAny M A t (fun a s' => DeadH s.heap s'.heap ∧ (DeadH s.heap s'.heap → Q a s')) (fun x s' => DeadH s.heap s'.heap ∧ E x s') s) (fun _ _ z => z.2 z.1) fun _ _ z => z.2
/-! ### a tuple's iterator -/
abbrev tupIt (a : Addr) (i : Nat) : Obj := { cls := .type "tuple_iterator", data := .fields #[.ref a, .int i 0] }
def TItO (a it : Addr) : HO := .ext fun h => h.get? it = some (tupIt a 0)
theorem titO_ok {P : Program} {w : World} {H : Hp} {h : Heap} {a it : Addr} (e : h.get? it = some (tupIt a 0)) : ObjOk P w H h it (TItO a it) := ⟨e, ⟨_, e⟩, fun h1 h2 q k => k _ q⟩
/-- iter(the tuple at p) -/
structure IterT (K : Frag) (H : Hp) (p : Addr) (Q : V → Hp → Prop) : Prop where
  ex : ∃ xs, SqT K H p xs ∧ ∀ it, H it = none → Q (.ref it) (upd H it (TItO p it))
def cIter (K : Frag) : List V → Hp → VK → Prop := fun xs H Q => match xs with
  | [.ref p] => IterT K H p Q
  | _ => False
theorem c_iter {X : Cx} : CallR X (.builtin "iter") (cIter X.K) := by
  intro pins s σ H xs us Q I r h
  match xs, h with
  | [.ref p], ⟨⟨ys, hx, q⟩⟩ =>
    obtain ⟨u, rfl, ru⟩ := r.one
    cases ru
    obtain ⟨its, rv, ht, hz⟩ := I.tuple hx
    refine Calls.call_function_entry (by decide +kernel) (by decide +kernel) PySem.W.kdk_entry_iter (PySem.W.kdk_args_iter _) ?_
    unfold Builtin.«iter»
    refine wpAny_bind (m := someArgs "iter" 1 2 _) (wpAny_of_eq (a := [Value.ref p]) (by first | rfl | kernel_rfl!) ?_)
    show wpAny _ _ (pyIter (.ref p) >>= _) _ _ _
    refine wpAny_bind (wpAny_pyIter_tuple (show s.heap.IsTuple p its.toArray from ht) ?_)
    refine wpAny_pure ⟨_, rfl, ?_⟩
    exact ⟨.ref s.heap.objs.size, _, I.laid (t' := s.toks) (fun b u e => Heap.get?_push_of_some _ e) (Nat.le_refl _) (titO_ok (Heap.get?_push_size _ rfl)), rfl, q _ (I.hok.fresh (Nat.le_refl _))⟩
/-- forgotten -/
def dropH (H : Hp) (a : Addr) : Hp := fun b => if b = a then none else H b
theorem dropH_same {H : Hp} {a : Addr} : dropH H a a = none := by unfold dropH; rw [if_pos rfl]
theorem dropH_ne {H : Hp} {a b : Addr} (h : b ≠ a) : dropH H a b = H b := by unfold dropH; rw [if_neg h]
theorem inv_drop {X : Cx} {pins : List (Addr × Obj)} {σ : L2.St} {H : Hp} {s : Shared} {a t : Addr} (I : Inv X pins σ H s) (h : H a = some (TItO t a)) : Inv X pins σ (dropH H a) s := by
  have keep : ∀ b u, H b = some u → (∀ φ, u ≠ .ext φ) → dropH H a b = some u := fun b u e n => by
    rw [dropH_ne fun z => by rw [z, h] at e; exact n _ (Option.some.inj e).symm]
    exact e
  have non : ∀ b, H b = none → dropH H a b = none := fun b e => by
    by_cases hb : b = a
    · rw [hb, dropH_same]
    · rw [dropH_ne hb]; exact e
  refine I.un (t' := s.toks) (H' := dropH H a) (h' := s.heap) ⟨fun _ _ e _ _ _ => e, fun _ o e _ _ _ => ⟨o.slots, e⟩, fun b _ _ z _ => non b z, fun _ o e _ => ⟨o, e⟩, fun b xs z => keep b _ z fun _ w => (nomatch w), fun b o x z => keep b _ z fun _ w => (nomatch w), fun b ps z => ⟨#[], by rw [keep b _ z fun _ w => (nomatch w)]; simp⟩⟩ ?_
  intro b u e
  have hb : b ≠ a := fun z => by rw [z, dropH_same] at e; cases e
  rw [dropH_ne hb] at e
  exact (I.hok b u e).stay (fun _ _ _ z => z) (fun c z => keep c _ z fun _ w => (nomatch w)) fun c xs z => keep c _ z fun _ w => (nomatch w)
theorem st_drop {K : Frag} {H : Hp} {a it t : Addr} {xs : List V} (h : SqT K H a xs) (hi : H it = some (TItO t it)) : SqT K (dropH H it) a xs := by
  rcases h with (h | ⟨o, h⟩) | h
  · exact .inl (.inl (by rw [dropH_ne fun z => by rw [z, hi] at h; cases h]; exact h))
  · exact .inl (.inr ⟨o, by rw [dropH_ne fun z => by rw [z, hi] at h; cases h]; exact h⟩)
  · exact .inr h
theorem same_drop {H H' : Hp} {it : Addr} (e : Same H H') (n : H it = none) : Same H (dropH H' it) := fun b o h => by
  rw [dropH_ne (ne_of_none h n)]
  exact e b o h
/-- the iterator that an own __iter__ handed out, by a run of it from a heap -/
structure OIt (K : Frag) (H : Hp) (R : Addr → List V → Hp → Prop) (v : V) (H2 : Hp) : Prop where
  ex : ∃ it t xs, v = .ref it ∧ H it = none ∧ H2 it = some (TItO t it) ∧ SqT K H2 t xs ∧ R t xs (dropH H2 it)
theorem OIt.of {K : Frag} {H H2 : Hp} {R : Addr → List V → Hp → Prop} {it t : Addr} {xs : List V} (n : H it = none) (h : H2 it = some (TItO t it)) (hx : SqT K H2 t xs) (q : R t xs (dropH H2 it)) : OIt K H R (.ref it) H2 := ⟨it, t, xs, rfl, n, h, hx, q⟩
section
variable {X : Cx} {k : Nat} {g : Addr} {sp : Sp} {c : Str} {ups fs : List Str} {a : Addr}
/-- the iterator stands beyond all that stood -/
theorem run_iter {pins : List (Addr × Obj)} {σ : L2.St} {H : Hp} {s : Shared} {R : Addr → List V → Hp → Prop} {A : Around} {Q : Value → Shared → Prop} {E : Value → Shared → Prop} (F : FnR X.prog X.w X.K X.mg X.base (L2.CX X.prog X.w) k g sp) (hr : Room k A) (hA : A.frames = X.A.frames) (I : Inv X pins σ H s)
    (h : sp [.ref a] H (OIt X.K H R) E0) (q : ∀ it t xs H2 s2, s.heap.objs.size ≤ it → s2.heap.get? it = some (tupIt t 0) → Inv X pins σ (dropH H2 it) s2 → SqT X.K (dropH H2 it) t xs → R t xs (dropH H2 it) → Q (.ref it) s2) :
    wpAny (model X.prog X.w) A (call (.ref g) [.ref a]) Q E s := by
  have e0 : Env0 X.prog X.w X.K X.mg X.base A X.stack s H := by
    have e := I.env0
    exact ⟨by rw [hA]; exact e.frames, e.mod, e.bs, e.bsz, e.funs, e.frf, e.hok, e.bare⟩
  refine wpAny_dead (wpAny_call (codeAny_mono (F A X.stack s H [.ref a] [.ref a] _ E0 hr e0 (.cons rfl .nil) h) fun r s' hq => ?_))
  cases r with
  | error er =>
    obtain ⟨_, _, _, _, _, _, _, _, _, _, _, _, z⟩ := hq
    exact z.elim
  | ok fl =>
    cases fl with
    | next => exact False.elim hq
    | brk => exact False.elim hq
    | cont => exact False.elim hq
    | ret u =>
      intro dd
      have I0 := I.after hq
      obtain ⟨v, H2, os, bare, un, hok, rv, ⟨it, t, xs, rfl, hn, hi, hx, qq⟩⟩ := hq
      cases rv
      have hok2 : s'.heap.get? it = some (tupIt t 0) := (hok it _ hi).1
      have ge : s.heap.objs.size ≤ it := by
        refine Nat.le_of_not_lt fun hlt => ?_
        cases e : s.heap.get? it with
        | none => rw [dd.no it hlt e] at hok2; cases hok2
        | some o => rw [un.free it o e hn (by simp)] at hi; cases hi
      obtain ⟨hh, gg, d', t', os'⟩ := s'
      obtain rfl : os' = s.os := os
      have I2 : Inv X pins σ H2 { s with heap := hh, gens := gg, drawn := d', toks := t' } := I.call (h' := hh) (g' := gg) (d' := d') (t' := t') (ch := []) un hok bare fun b z => absurd z (by simp)
      exact q it t xs H2 _ ge hok2 (inv_drop I2 hi) (st_drop hx hi) qq
theorem owit_tup {M : Model} {A : Around} {Q : Value → Shared → Prop} {E : Value → Shared → Prop} {s : Shared} {it t : Addr} (h : s.heap.get? it = some (tupIt t 0)) (q : Q (.ref it) s) : PySem.W.OwitIt M A Q E (.ref it) s := by
  unfold PySem.W.OwitIt
  exact wpAny_specialOf (show s.TypeIs (.ref it) "tuple_iterator" from ⟨_, h, rfl⟩) F.slot_tuple_iterator_next.lookup q
/-- for .. in o -/
structure OwnI (K : Frag) (c : Str) (sp : Sp) (H : Hp) (a : Addr) (R : It → Hp → Prop) : Prop where
  ex : (∃ dx as, H a = some (.ins (He.ga K c) dx as)) ∧ sp [.ref a] H (OIt K H fun t _ H2 => R (Itt K t) H2) E0
theorem OwnI.of {K : Frag} {H : Hp} {R : It → Hp → Prop} {dx : Addr} {as : List (Str × V)} (h : H a = some (.ins (He.ga K c) dx as)) (q : sp [.ref a] H (OIt K H fun t _ H2 => R (Itt K t) H2) E0) : OwnI K c sp H a R := ⟨⟨dx, as, h⟩, q⟩
/-- over a list, a tuple, an instance of c -/
structure WalkI (K : Frag) (c : Str) (sp : Sp) (H : Hp) (a : Addr) (R : It → Hp → Prop) : Prop where
  ex : Walk K H a R ∨ OwnI K c sp H a R
def iOwn (K : Frag) (c : Str) (sp : Sp) (te : TE) : TI := fun σ H R => te σ H fun x H1 => match x with
  | .ref a => WalkI K c sp H1 a R
  | _ => False
theorem pi_own {e : Expr} {tg : Expr} {te : TE} (D : DF X.K c ups fs) (hm : Meth X.K (He.ga X.K c) "__iter__" g) (F : FnR X.prog X.w X.K X.mg X.base (L2.CX X.prog X.w) k g sp) (hr : Room k X.A) (he : PE X e te) : PI X tg e (iOwn X.K c sp te) := by
  refine ⟨fun pins s σ H R I h => ?_⟩
  refine thn (he.run pins s σ H _ I h) fun v s1 ⟨x, H1, I1, r1, q1⟩ => ?_
  cases x <;> try exact q1.elim
  rename_i a
  rcases q1.ex with q1 | q1
  · cases r1
    rcases q1.ex with ⟨⟨xs, hq⟩, q⟩ | ⟨⟨xs, hq⟩, q⟩
    · obtain ⟨its, rv, p, hz⟩ := I1.list hq
      refine wpAny_pyIter_list p.isList ?_
      refine ⟨s1.heap.objs.size, [s1.heap.objs.size], _, _, H1, rfl, I1.kept (t' := s1.toks) fun b o e => Heap.get?_push_of_some _ e, turn_list _ _, ⟨_, Heap.get?_push_size _ rfl, rfl, rfl⟩, fun b hb => ?_, q⟩
      have e : b = s1.heap.objs.size := by simpa using hb
      subst e
      exact I1.fpOk (Nat.le_refl _) (I1.hok.fresh (Nat.le_refl _))
    · obtain ⟨its, rv, p, hz⟩ := I1.tuple hq
      refine wpAny_pyIter_tuple (show s1.heap.IsTuple _ its.toArray from p) ?_
      refine ⟨s1.heap.objs.size, [s1.heap.objs.size], _, _, H1, rfl, I1.kept (t' := s1.toks) fun b o e => Heap.get?_push_of_some _ e, turn_tuple _ _, ⟨_, Heap.get?_push_size _ rfl, rfl, rfl⟩, fun b hb => ?_, q⟩
      have e : b = s1.heap.objs.size := by simpa using hb
      subst e
      exact I1.fpOk (Nat.le_refl _) (I1.hok.fresh (Nat.le_refl _))
  · cases r1
    obtain ⟨⟨dx, as, ha⟩, q⟩ := q1.ex
    obtain ⟨mA, J, _⟩ := ins_get I1.hok ha
    obtain ⟨od, J, _⟩ := J.look
    obtain ⟨m, hF⟩ := I1.fr
    refine PySem.W.owit_iter hF I1.ok.mod.kin J hm.at_ hm.fn ?_
    refine run_iter F hr rfl I1 q fun it t xs H2 s2 ge hi I2 hx qq => owit_tup hi ?_
    refine ⟨it, [it], _, _, dropH H2 it, rfl, I2, turn_tuple _ _, ⟨_, hi, rfl, rfl⟩, fun b hb => ?_, qq⟩
    have e : b = it := by simpa using hb
    subst e
    exact I1.fpOk ge dropH_same
end
end S
namespace S
open PySem PySem.Spec PyProof.Rows L2
open Sem (wp)
/-- a class with an own __iter__, without __len__ and __length_hint__ -/
structure ItD (K : Frag) (c : Str) (g : Addr) : Prop where
  it : Meth K (He.ga K c) "__iter__" g
  nolen : PySem.W.findIn K (.ref (He.ga K c)) "__len__" = some none
  nohint : PySem.W.findIn K (.ref (He.ga K c)) "__length_hint__" = some none
section
variable {X : Cx} {k : Nat} {g : Addr} {sp : Sp} {c : Str} {ups fs : List Str} {a : Addr}
theorem own_hintD {M : Model} {A : Around} {E : Value → Shared → Prop} {s : Shared} {Q : Bool → Shared → Prop} {K : PySem.W.Frag} {ox : Obj} {od : Option Obj} (hc : ItD K c g) (hK : K.In s.heap) (J : PySem.W.InstAt s.heap a ox (He.ga K c) od) (h : Q true s) :
    wpAny M A (Builtin.List.listLengthHint (.ref a)) Q E s := by
  unfold Builtin.List.listLengthHint
  refine wpAny_bind (wpAny_bind (J.type.here ((PySem.W.looks_findIn hK hc.nolen).here ?_)))
  refine PySem.W.KFB.if_not rfl ?_
  refine PySem.W.KFB.if_not rfl ?_
  refine wpAny_bind (wpAny_bind (J.type.here ((PySem.W.looks_findIn hK hc.nohint).here ?_)))
  exact wpAny_pure h
theorem tup_loop1 {pins : List (Addr × Obj)} {σ : L2.St} {A1 : Around} {Rs : Result → Shared → Prop} {q it t : Addr} {xs : List V} {H : Hp} (hA : A1.handled = none) (hf : FpOk X pins H it) (hx : SqT X.K H t xs) (hq0 : H q = some (.lst []))
    (hdone : ∀ s, Inv X pins σ (upd H q (.lst xs)) s → Rs (.ok (.ret .none)) s) :
    ∀ (m i : Nat) (s : Shared), i + m = xs.length → Inv X pins σ (upd H q (.lst (xs.take i))) s → s.heap.IsTupleIter it t i → codeAny (model X.prog X.w) A1 (.builtin "list.extend.loop" ⟨[.ref q, .ref it, .none], []⟩) Rs s := by
  intro m
  have hne : q ≠ it := fun z => by rw [z, hf.1] at hq0; cases hq0
  have hf2 : ∀ i, FpOk X pins (upd H q (.lst (xs.take i))) it := fun i => by
    obtain ⟨f0, f1, f2, f3, f4, f5⟩ := hf
    exact ⟨by rw [upd_ne (Ne.symm hne)]; exact f0, f1, f2, f3, f4, f5⟩
  have hx2 : ∀ i, SqT X.K (upd H q (.lst (xs.take i))) t xs := fun i => (SameX.upd (st := q) (H := H)).tup hx hq0
  induction m with
  | zero =>
    intro i s hi I st
    refine codeAny_builtin PySem.F.entry_extend_loop ?_
    rw [Around.under_plainId PySem.F.plain_extend_loop _]
    show wpAny _ A1.in1 (pyNext (.ref it) >>= _) _ _ s
    obtain ⟨its, rv, p, hz⟩ := I.tuple (hx2 i)
    have hl := rv.length
    obtain ⟨f0, f1, f2, f3, f4, f5⟩ := hf2 i
    refine wpAny_bind (wpAny_pyNext_tuple_end hA st (show s.heap.IsTuple t its.toArray from p) (by simp; omega) fun h' eb => ?_)
    have I1 : Inv X pins σ _ { s with heap := h' } := I.turned (t' := s.toks) (fun b o hb e => eb b o hb e) f0 f1 f3 f4 f5
    have e : xs.take i = xs := List.take_of_length_le (by omega)
    rw [e] at I1
    exact wpAny_pure (hdone _ I1)
  | succ m ih =>
    intro i s hi I st
    refine codeAny_builtin PySem.F.entry_extend_loop ?_
    rw [Around.under_plainId PySem.F.plain_extend_loop _]
    show wpAny _ A1.in1 (pyNext (.ref it) >>= _) _ _ s
    obtain ⟨its, rv, p, hz⟩ := I.tuple (hx2 i)
    have hl := rv.length
    obtain ⟨f0, f1, f2, f3, f4, f5⟩ := hf2 i
    obtain ⟨x, hxi⟩ : ∃ x, xs[i]? = some x := ⟨xs[i]'(by omega), List.getElem?_eq_getElem (by omega)⟩
    obtain ⟨u, hu, ru⟩ := rv.get hxi
    refine wpAny_bind (wpAny_pyNext_tuple_item st (show s.heap.IsTuple t its.toArray from p) (x := u) (by simpa using hu) fun h' st' sb => ?_)
    have I1 : Inv X pins σ _ { s with heap := h' } := I.turned (t' := s.toks) (fun b o hb e => (sb.2 b hb).trans e) f0 f1 f3 f4 f5
    show wpAny _ A1.in1 (updateSeq q (·.push u) >>= _) _ _ _
    obtain ⟨z, its2, k2, r2, hl2, e⟩ := I1.lstM (l := q) upd_same
    have hlen := r2.length
    have hlx : xs.length ≤ sizeLine := hz
    rw [List.length_take] at hlen
    refine wpAny_bind (wpAny_updateSeq e rfl (wpAny_pure ⟨plainId_quiet PySem.F.plain_extend_loop _, ?_⟩) (by rw [List.size_toArray]; omega) (by show (its2.toArray.push u).size ≤ sizeLine + 1; rw [Array.size_push, List.size_toArray]; omega))
    have I2 := I1.lset (f := (·.push u)) (its' := its2 ++ [u]) (ys := xs.take i ++ [x]) (t' := s.toks) upd_same e (by simp) (r2.append (.cons ru .nil)) (by rw [List.length_append, List.length_singleton, List.length_take]; omega)
    rw [upd_upd] at I2
    have ex : xs.take i ++ [x] = xs.take (i + 1) := by rw [List.take_add_one, hxi]; rfl
    rw [ex] at I2
    refine ih (i + 1) _ (by omega) I2 ?_
    obtain ⟨o, eo, cc, dd⟩ := st'
    exact ⟨o, (Heap.get?_update_other _ _ hne).trans eo, cc, dd⟩
/-- list(o) -/
structure ListO (K : Frag) (c : Str) (sp : Sp) (H : Hp) (a : Addr) (Q : VK) : Prop where
  ex : (∃ dx as, H a = some (.ins (He.ga K c) dx as)) ∧ ∀ q, H q = none → sp [.ref a] (upd H q (.lst [])) (OIt K (upd H q (.lst [])) fun _ xs H2 => H2 q = some (.lst []) ∧ (∃ dx as, H2 a = some (.ins (He.ga K c) dx as)) ∧ Q (.ref q) (upd H2 q (.lst xs))) E0
theorem ListO.of {K : Frag} {sp : Sp} {H : Hp} {Q : VK} {dx : Addr} {as : List (Str × V)} (h : H a = some (.ins (He.ga K c) dx as)) (q : ∀ q, H q = none → sp [.ref a] (upd H q (.lst [])) (OIt K (upd H q (.lst [])) fun _ xs H2 => H2 q = some (.lst []) ∧ (∃ dx as, H2 a = some (.ins (He.ga K c) dx as)) ∧ Q (.ref q) (upd H2 q (.lst xs))) E0) : ListO K c sp H a Q := ⟨⟨dx, as, h⟩, q⟩
/-- list of a list, a tuple, an instance of c -/
structure AnyO (K : Frag) (c : Str) (sp : Sp) (H : Hp) (p : Addr) (Q : VK) : Prop where
  ex : (Rd K H p fun ys => NewL H ys Q) ∨ ListO K c sp H p Q
def cListO (K : Frag) (c : Str) (sp : Sp) : List V → Hp → VK → Prop := fun xs H Q => match xs with
  | [.ref p] => AnyO K c sp H p Q
  | _ => False
theorem c_listO (D : DF X.K c ups fs) (hc : ItD X.K c g) (F : FnR X.prog X.w X.K X.mg X.base (L2.CX X.prog X.w) k g sp) (hr : Room (k + 2) X.A) (hC : X.calm = true := by rfl) : CallR X (.type "list") (cListO X.K c sp) := by
  intro pins s σ H xs us Q I rv h
  match xs, h with
  | [.ref a], h =>
  rcases h.ex with h | ⟨⟨dx, fs, ha⟩, hq⟩
  · exact c_list pins s σ H [.ref a] us Q I rv h
  obtain ⟨u, rfl, ru⟩ := rv.one
  cases ru
  have sb : Sub X k X.A.in1.in1 := (Sub.in1 (Sub.in1 (⟨hr, rfl⟩ : Sub X (k + 2) X.A)))
  refine callType_codes (Q₁ := fun obj s₁ => obj = .ref s.heap.objs.size ∧ s₁ = { s with heap := s.heap.push { cls := .type "list", data := .seq #[] } }) PySem.F.called_list (PySem.F.typeCall_list_1 _) PySem.F.entry_list_init
    (code_list_new _ ⟨rfl, rfl⟩) fun obj s₁ h₁ => ?_
  obtain ⟨rfl, rfl⟩ := h₁
  have hS : (s.heap.push { cls := .type "list", data := .seq #[] }).get? s.heap.objs.size = some { cls := .type "list", data := .seq #[] } := Heap.get?_push_size _ rfl
  refine ⟨⟨_, hS, rfl⟩, PySem.F.args_list_init_2 _ _, ?_⟩
  have fr : H s.heap.objs.size = none := I.hok.fresh (Nat.le_refl _)
  have hsp := hq _ fr
  have I1 : Inv X pins σ (upd H s.heap.objs.size (.lst [])) { s with heap := s.heap.push { cls := .type "list", data := .seq #[] } } := I.lnew (its := []) (t' := s.toks) .nil (Nat.zero_le _)
  show wpAny _ _ (do let old ← Builtin.List.listItems (.ref s.heap.objs.size); Builtin.List.listUpdate (.ref s.heap.objs.size) (fun _ => #[]); letGo old.toList.reverse; Builtin.List.listExtendWith (.ref s.heap.objs.size) (.ref a) .none) _ _ _
  refine wpAny_bind ?_
  unfold Builtin.List.listItems
  refine wpAny_bind (wpAny_seqItems hS rfl (wpAny_pure ?_))
  show wpAny _ _ (updateSeq s.heap.objs.size (fun _ => #[]) >>= fun _ => letGo (#[] : Array Value).toList.reverse >>= fun _ => Builtin.List.listExtendWith (.ref s.heap.objs.size) (.ref a) .none) _ _ _
  refine wpAny_bind (wpAny_updateSeq hS rfl ?_)
  have I2 := I1.lset (f := fun _ => #[]) (its := []) (its' := []) (ys := []) (t' := s.toks) upd_same hS rfl .nil (Nat.zero_le _)
  rw [upd_upd] at I2
  refine wpAny_bind (wpAny_letGo ?_)
  have ha2 : upd H s.heap.objs.size (.lst []) a = some (.ins (He.ga X.K c) dx fs) := by rw [upd_ne (ne_of_none ha fr)]; exact ha
  have hne : s.heap.objs.size ≠ a := fun z => by rw [z, ha] at fr; cases fr
  have hlq : upd H s.heap.objs.size (.lst ([] : List V)) s.heap.objs.size = some (.lst []) := upd_same
  have hgo : ∀ (H1 : Hp) (s1 : Shared) (q : Addr), q ≠ a → H1 a = some (.ins (He.ga X.K c) dx fs) → Inv X pins σ H1 s1 →
      sp [.ref a] H1 (OIt X.K H1 fun _ xs H2 => H2 q = some (.lst []) ∧ (∃ dx as, H2 a = some (.ins (He.ga X.K c) dx as)) ∧ Q (.ref q) (upd H2 q (.lst xs))) E0 →
      wpAny (model X.prog X.w) X.A.in1.in1 (Builtin.List.listExtendWith (.ref q) (.ref a) .none)
        (fun fin s' => match fin with | .done f => wants (fun r s₂ => r = .none ∧ EP X pins σ Q (.ref q) s₂) X.xe (.ok f) s' | .again c' => c'.quiet = true ∧ codeAny (model X.prog X.w) X.A.in1 c' (wants (fun r s₂ => r = .none ∧ EP X pins σ Q (.ref q) s₂) X.xe) s') (fun e s' => wants (fun r s₂ => r = .none ∧ EP X pins σ Q (.ref q) s₂) X.xe (.error e) s') s1 := by
    intro H1 s1 q hne ha1 I1 hsp
    obtain ⟨mA, J, _⟩ := ins_get I1.hok ha1
    obtain ⟨od, J, _⟩ := J.look
    obtain ⟨m0, hF⟩ := I1.fr
    unfold Builtin.List.listExtendWith
    refine wpAny_bind (J.type.here ?_)
    have h1 : Builtin.List.listSameRef (.ref q) (.ref a) = false := by simp [Builtin.List.listSameRef, hne]
    have h2 : (Value.ref (He.ga X.K c) == Value.type "list") = false := rfl
    have h3 : (Value.ref (He.ga X.K c) == Value.type "tuple") = false := rfl
    simp only [h1, h2, h3, Bool.or_false, Bool.false_eq_true, if_false]
    refine wpAny_bind (PySem.W.owit_iter hF I1.ok.mod.kin J hc.it.at_ hc.it.fn ?_)
    refine run_iter (A := X.A.in1.in1) F sb.room (by rw [sb.fr]) I1 hsp fun it t xs H2 s2 ge hi I2 hx qq => owit_tup hi ?_
    obtain ⟨hq2, ⟨dx2, fs2, ha3⟩, qq⟩ := qq
    obtain ⟨mA', J', _⟩ := ins_get I2.hok ha3
    obtain ⟨od', J', _⟩ := J'.look
    refine wpAny_bind (wpAny_holding (own_hintD hc I2.kIn J' ?_))
    obtain ⟨z, its, k3, r3, hl3, e3⟩ := I2.lstM hq2
    cases r3
    have hne2 : q ≠ it := fun z => by rw [z, dropH_same] at hq2; cases hq2
    have st : s2.heap.IsTupleIter it t 0 := ⟨_, hi, rfl, rfl⟩
    have hf : FpOk X pins (dropH H2 it) it := I1.fpOk ge dropH_same
    have hH : upd (dropH H2 it) q (.lst []) = dropH H2 it := by
      funext b
      by_cases hb : b = q
      · rw [hb, upd_same, hq2]
      · rw [upd_ne hb]
    have fin := tup_loop1 (pins := pins) (σ := σ) (A1 := X.A.in1) (Rs := wants (fun r s₂ => r = .none ∧ EP X pins σ Q (.ref q) s₂) X.xe) (I2.ok.hd hC) hf hx hq2
      (fun s3 I3 => ⟨rfl, .ref q, _, I3, rfl, qq⟩) xs.length 0
    refine wpAny_ite_split (fun _ => ?_) (fun _ => wpAny_pure ⟨plainId_quiet PySem.F.plain_extend_loop _, fin s2 (by omega) (by rw [List.take_zero, hH]; exact I2) st⟩)
    refine wpAny_bind (wpAny_rule ?_)
    refine wpAny_bind ?_
    show wpAny _ _ (updateSeq q (·.push .none) >>= fun _ => updateSeq q (·.pop)) _ _ _
    refine wpAny_bind (wpAny_updateSeq e3 rfl ?_)
    have I3 := I2.lset (f := (·.push Value.none)) (its' := [Value.none]) (ys := [.non]) (t' := s2.toks) hq2 e3 (by simp) (.cons rfl .nil) (by rw [List.length_singleton, sizeLine_eq]; decide)
    obtain ⟨z4, its4, k4, r4, hl4, e4⟩ := I3.lstM upd_same
    obtain ⟨u4, rfl, ru4⟩ := r4.one
    refine wpAny_updateSeq e4 rfl ?_ (by show 1 ≤ sizeLine; rw [sizeLine_eq]; decide) (by show 0 ≤ sizeLine + 1; exact Nat.zero_le _)
    have I4 := I3.lset (f := (·.pop)) (its := [u4]) (its' := []) (ys := []) (t' := s2.toks) upd_same e4 (by rfl) .nil (Nat.zero_le _)
    rw [upd_upd] at I4
    refine wpAny_pure ⟨plainId_quiet PySem.F.plain_extend_loop _, fin _ (by omega) (by rw [List.take_zero]; exact I4) ?_⟩
    obtain ⟨o, eo, cc, dd⟩ := st
    exact ⟨o, (Heap.get?_update_other _ _ hne2).trans ((Heap.get?_update_other _ _ hne2).trans eo), cc, dd⟩
  exact hgo _ _ _ hne ha2 I2 hsp
end
end S
namespace S
open PySem PySem.Spec PyProof.Rows L2
/-- == of data, or of lists with the very same objects -/
structure EqS (K : Frag) (H : Hp) (a b : Addr) (k : Bool → Prop) : Prop where
  ex : EqD K H (.ref a) (.ref b) k ∨ ∃ ps : List Addr, SqL K H a (ps.map V.ref) ∧ SqL K H b (ps.map V.ref) ∧ k true
def oNeS (K : Frag) : R2 := fun x y H Q => match x, y with
  | .ref a, .ref b => EqS K H a b fun r => Q (.bl (!r)) H
  | x, y => oNe K x y H Q
theorem refs_vals : ∀ {ps : List Addr} {us : List Value}, Vals (ps.map V.ref) us → us = ps.map Value.ref
  | [], _, .nil => rfl
  | p :: ps, _, .cons h t => by
    cases h
    rw [refs_vals t]
    rfl
theorem op_neS {X : Cx} (hu : X.A.units + 64 < cLine) : OpR X (compareOp .NotEq) (oNeS X.K) := by
  have h0 : OpR X (compareOp .NotEq) (oNe X.K) := o_ne hu
  intro pins s σ H x y v u Q I rx ry q
  have two : ∀ a b, x = .ref a → y = .ref b → (EqS X.K H a b fun r => Q (.bl (!r)) H) → wpAny (model X.prog X.w) X.A (compareOp .NotEq v u) (EP X pins σ Q) X.xe s := by
    intro a b ex ey q1
    clear q
    subst ex ey
    rcases q1.ex with q | ⟨ps, ha, hb, q⟩
    · exact h0 pins s σ H _ _ v u Q I rx ry (show oNe X.K (.ref a) (.ref b) H Q from q)
    · cases rx
      cases ry
      obtain ⟨its, rv, e, z⟩ := I.list ha
      obtain ⟨its2, rv2, e2, z2⟩ := I.list hb
      obtain rfl := refs_vals rv
      obtain rfl := refs_vals rv2
      have hh := PySem.SeqAt.RcNeAt.lists (A := X.A) (s := s) (e := fun _ => true) e.isList e2.isList rfl (by omega) (fun j h1 h2 => SeqAt.EqAt.same _)
      rw [show (List.range (ps.map Value.ref).toArray.size).all (fun _ => true) = true from List.all_eq_true.mpr fun _ _ => rfl] at hh
      exact hh X.prog X.w _ _ ⟨.bl false, H, I, rfl, q⟩
  cases x <;> cases y <;> first | exact two _ _ rfl rfl q | exact h0 pins s σ H _ _ v u Q I rx ry q
end S
namespace S
open PySem PySem.Spec PyProof.Rows L2
abbrev Rw : Type := V × List Int
def leR (p q : Rw) : Bool := decide (p.2 ≤ q.2)
theorem tupLe : PySem.W.dataLe false (fun b : Rw => .tuple (b.2.map .int)) = leR := by
  funext p q
  show (!PySem.W.dataLt (.tuple (q.2.map .int)) (.tuple (p.2.map .int))) = _
  rw [PySem.W.dataLt_tuple]
  show (!PySem.W.rowLt (q.2.map .int) (p.2.map .int)) = _
  rw [PySem.W.dataLt_ints]
  unfold leR
  by_cases h : q.2 < p.2
  · have h' : ¬ p.2 ≤ q.2 := fun r => List.not_lt.mpr r h
    simp [h, h']
  · have h' : p.2 ≤ q.2 := List.not_lt.mp h
    simp [h, h']
theorem each_of : ∀ {bs : List Rw} {us : List Value}, Vals (bs.map (·.1)) us → PySem.W.EachIs (fun u (b : Rw) => L2.RelV b.1 u) us bs
  | [], _, .nil => .nil
  | _ :: _, _, .cons h t => .cons h (each_of t)
theorem of_each : ∀ {bs : List Rw} {us : List Value}, PySem.W.EachIs (fun u (b : Rw) => L2.RelV b.1 u) us bs → Vals (bs.map (·.1)) us
  | [], _, .nil => .nil
  | _ :: _, _, .cons h t => .cons h (of_each t)
theorem dpAll_ints {K : Frag} {H : Hp} : ∀ ns : List Int, DpAll K H (ns.map V.int) (ns.map PyData.int)
  | [] => .nil
  | n :: ns => .cons (.int n) (dpAll_ints ns)
theorem leR_trans (a b c : Rw) (h1 : leR a b = true) (h2 : leR b c = true) : leR a c = true := decide_eq_true (List.le_trans (of_decide_eq_true h1) (of_decide_eq_true h2))
theorem leR_total (a b : Rw) : (leR a b || leR b a) = true := by
  rcases List.le_total a.2 b.2 with h | h
  · simp [leR, h]
  · simp [leR, h]
structure SrtT (K : Frag) (H : Hp) (p : Addr) (Q : VK) : Prop where
  ex : Srt K H p Q ∨ ∃ bs : List Rw, SqL K H p (bs.map (·.1)) ∧ (∀ b ∈ bs, b.2 ≠ [] ∧ ∃ t, b.1 = .ref t ∧ SqT K H t (b.2.map V.int)) ∧
    ∀ (cs : List Rw) (q : Addr), cs.Perm bs → cs.Pairwise (fun p q => p.2 ≤ q.2) → H q = none → Q (.ref q) (upd H q (.lst (cs.map (·.1))))
def cSortedT (K : Frag) : List V → Hp → VK → Prop := fun xs H Q => match xs with
  | [.ref p] => SrtT K H p Q
  | _ => False
theorem c_sortedT {X : Cx} (hu : X.A.units + 64 < cLine) : CallR X (.builtin "sorted") (cSortedT X.K) := by
  intro pins s σ H xs us Q I r h
  match xs, h with
  | [.ref p], ⟨h⟩ =>
  rcases h with h | ⟨bs, hs, hb, q⟩
  · exact c_sorted pins s σ H [.ref p] us Q I r h
  obtain ⟨its, rv, hl, hz⟩ := I.list hs
  obtain ⟨u, rfl, ru⟩ := r.one
  cases ru
  rw [List.length_map] at hz
  have lv := rv.length
  rw [List.length_map] at lv
  have er : PySem.W.EachIs (fun v (b : Rw) => ∃ as, Reads s.heap v (.tuple (b.2.map .int)) as) its bs := by
    have e := each_of rv
    have go : ∀ {us : List Value} {cs : List Rw}, PySem.W.EachIs (fun u (b : Rw) => L2.RelV b.1 u) us cs → (∀ b ∈ cs, b ∈ bs) → PySem.W.EachIs (fun v (b : Rw) => ∃ as, Reads s.heap v (.tuple (b.2.map .int)) as) us cs := by
      intro us cs e
      induction e with
      | nil => exact fun _ => .nil
      | cons h t ih =>
        intro hm
        refine .cons ?_ (ih fun b hb => hm b (List.mem_cons_of_mem _ hb))
        obtain ⟨_, t, et, ht⟩ := hb _ (hm _ (List.mem_cons_self ..))
        exact Dp.reads I _ _ _ (by rw [et]; exact .tup ht (dpAll_ints _)) h
    exact go e fun _ h => h
  refine PySem.W.sorted_data (enc := fun b : Rw => .tuple (b.2.map .int)) hl.isList (each_of rv) er (PySem.W.AllAlike.of fun b b' => ?_) (.inl fun d hd => ?_) hz (fun b hb => ?_) fun out h1 h2 => ?_
  · have := PySem.W.alike_ints b.2 b'.2
    simpa [PySem.W.alike] using this
  · obtain ⟨b, hm, rfl⟩ := List.mem_map.mp hd
    obtain ⟨ne, _⟩ := hb b hm
    match hbb : b.2 with
    | [] => exact absurd hbb ne
    | x :: r => exact ⟨.int x, r.map .int, rfl⟩
  · have hd : (PyData.tuple (b.2.map .int)).depth ≤ 8 := by
      simp only [PyData.depth, PySem.W.depth_ints]
      omega
    omega
  · rw [tupLe] at h2
    obtain ⟨ep, he'⟩ := PyProof.Rows.sortedAll_at s.heap its out.toArray
    have hp := List.mergeSort_perm bs leR
    have hlen : ((bs.mergeSort leR).map (·.1)).length ≤ sizeLine := by
      rw [List.length_map, hp.length_eq]
      exact hz
    refine ⟨.ref _, upd H (s.heap.objs.size + 1) (.lst ((bs.mergeSort leR).map (·.1))), I.laid (t' := s.toks) (fun _ _ => PyProof.Rows.sortedAll_old) (Nat.le_succ _) ⟨hlen, out, ep, of_each h2, he'⟩, rfl, q _ _ hp ?_ (I.hok.fresh (Nat.le_succ _))⟩
    exact (List.pairwise_mergeSort leR_trans leR_total bs).imp fun h => of_decide_eq_true h
end S
namespace S
open PySem PySem.Spec PyProof.Rows L2
structure InT (K : Frag) (H : Hp) (x : V) (p : Addr) (Q : VK) : Prop where
  ex : (Rd K H p fun xs => Need (flatV x = true ∧ xs.all flatV = true) (Q (.bl (inV x xs)) H)) ∨ rInD K x (.ref p) H Q
def oInT (K : Frag) : R2 := fun x y H Q => match y with
  | .ref p => InT K H x p Q
  | _ => False
theorem op_inT {X : Cx} (hu : X.A.units + 80 < cLine) : OpR X (compareOp .In) (oInT X.K) := by
  intro pins s σ H x y v u Q I rx ry q
  cases y <;> try exact q.elim
  rcases q.ex with q | q
  · exact o_in pins s σ H x _ v u Q I rx ry q
  · exact op_inD (by omega) pins s σ H x _ v u Q I rx ry q
theorem u80 {k : Nat} {A : Around} (r : Room k A) : A.units + 80 < cLine := by have := r.un; omega
def oFdivW : R2 := oI CDivW fun i j => i / j
theorem o_fdivW {X : Cx} : OpR X (binaryOp .FloorDiv) oFdivW := oI_of op_fdivW
def oMulW : R2 := oI CMulW fun i j => i * j
theorem o_mulW {X : Cx} : OpR X (binaryOp .Mult) oMulW := oI_of op_mulW
structure IdxT (K : Frag) (x : V) (xs : List V) (H : Hp) (Q : VK) : Prop where
  ex : rIndexD K x xs H Q
def mIdx (K : Frag) : V → List V → Hp → VK → Prop := fun x xs H Q => IdxT K x xs H Q
theorem m_idx {X : Cx} (hu : X.A.units + 80 < cLine) : MtR X "list.index" (mIdx X.K) := fun pins s σ H x xs v us Q I rx rxs h => mt_indexD (by omega) pins s σ H x xs v us Q I rx rxs h.ex
end S
namespace S
open PySem PySem.Spec PyProof.Rows L2
/-! ### a text walked -/
structure TxR (x : Str) (H : Hp) (R : It → Hp → Prop) : Prop where
  go : R (Its x) H
def iTxt (te : TE) : TI := fun σ H R => te σ H fun v H1 => match v with
  | .str x => TxR x H1 R
  | _ => False
theorem pi_txt {X : Cx} {tg e : Expr} {te : TE} (he : PE X e te) : PI X tg e (iTxt te) := by
  refine ⟨fun pins s σ H R I h => ?_⟩
  refine thn (he.run pins s σ H _ I h) fun v s1 ⟨y, H1, I1, r1, q⟩ => ?_
  cases y <;> try exact q.elim
  rename_i x
  obtain ⟨t, rfl⟩ := r1
  cases ha : x.cps.all (· < 128)
  · exact wpAny_pyIter_wide ha (pi_one (tk := s1.toks) I1 _ (turn_str _ x t "str_iterator" (.inr rfl)) ⟨_, Heap.get?_push_size _ rfl, rfl, rfl⟩ q.go)
  · exact wpAny_pyIter_ascii ha (pi_one (tk := s1.toks) I1 _ (turn_str _ x t "str_ascii_iterator" (.inl rfl)) ⟨_, Heap.get?_push_size _ rfl, rfl, rfl⟩ q.go)
theorem for_txt {x : Str} {g : TG} {tb : TS} {D : L2.Ends} {σ : L2.St} {H : Hp} (Pv : Nat → L2.St → Hp → Prop) (h0 : Pv 0 σ H)
    (hs : ∀ i c σ H, x.cps[i]? = some c → Pv i σ H → g (.str ⟨#[c]⟩) σ H fun σ2 H2 => tb { D with nx := Pv (i + 1), ct := Pv (i + 1), bk := D.nx } σ2 H2) (hd : ∀ σ H, Pv x.cps.size σ H → D.nx σ H) :
    TxR x H (LoopR D g tb σ) := by
  refine ⟨⟨fun i m σ H => m = x.cps.size - i ∧ i ≤ x.cps.size ∧ Pv i σ H, ⟨x.cps.size, by simp, Nat.zero_le _, h0⟩, ?_⟩⟩
  rintro i m σ H ⟨rfl, hi, p⟩
  by_cases hlt : i < x.cps.size
  · refine .inr ⟨hlt, Pv (i + 1), fun σ' H' p' => ⟨x.cps.size - (i + 1), by omega, rfl, hlt, p'⟩, fun y H' hy => ?_⟩
    obtain ⟨rfl, c, hc, rfl⟩ := hy
    exact hs i c σ _ hc p
  · have e : i = x.cps.size := by omega
    subst e
    exact .inl ⟨Nat.le_refl _, hd σ H p⟩
/-- a comprehension over a text: what it keeps -/
theorem lc_txt {x : Str} {i : Nat} {tt : TT} {te : TE} {vs : List Nat} {σ : L2.St} {H1 : Hp} {Q : VK} (hz : x.cps.size < sizeLine) (f : Nat → V) (pr : Nat → Bool)
    (hs : ∀ c H (A : V → Hp → Prop) (B : Hp → Prop), Same H1 H → (pr c = true → A (f c) H) → (pr c = false → B H) → wipe ((wipe σ vs).set i (some (.str ⟨#[c]⟩))) vs = wipe σ vs ∧ tt ((wipe σ vs).set i (some (.str ⟨#[c]⟩))) H fun b H3 => if b = true then te ((wipe σ vs).set i (some (.str ⟨#[c]⟩))) H3 A else B H3)
    (hd : ∀ D H', H1 D = none → H' D = some (.lst ((x.cps.toList.filter pr).map f)) → Same H1 H' → Q (.ref D) H') :
    TxR x H1 (Wr (LcGo (gName i) tt te vs σ Q)) := by
  refine ⟨⟨fun D hD => ?_⟩⟩
  refine ⟨fun i m H => m = x.cps.size - i ∧ i ≤ x.cps.size ∧ H D = some (.lst (((x.cps.toList.take i).filter pr).map f)) ∧ Same H1 H, ⟨x.cps.size, by simp, Nat.zero_le _, upd_same, same_new hD⟩, ?_⟩
  rintro j m H ⟨rfl, hi, hl, e⟩
  by_cases hlt : j < x.cps.size
  · refine .inr ⟨hlt, fun H' => H' D = some (.lst (((x.cps.toList.take (j + 1)).filter pr).map f)) ∧ Same H1 H', fun H' p' => ⟨x.cps.size - (j + 1), by omega, rfl, hlt, p'⟩, fun y H' hy => ?_⟩
    obtain ⟨rfl, c, hc, rfl⟩ := hy
    have hc' : x.cps.toList[j]? = some c := by simpa using hc
    have tk : x.cps.toList.take (j + 1) = x.cps.toList.take j ++ [c] := by rw [List.take_add_one, hc']; rfl
    have len : (((x.cps.toList.take j).filter pr).map f).length < sizeLine := by
      rw [List.length_map]
      have := List.length_filter_le pr (x.cps.toList.take j)
      have h2 : (x.cps.toList.take j).length ≤ j := by rw [List.length_take]; omega
      omega
    refine hs c H' _ _ e (fun hp => ⟨_, hl, len, ?_, ?_⟩) (fun hp => ⟨?_, e⟩)
    · rw [upd_same, tk, List.filter_append, List.map_append]
      simp [hp]
    · exact fun b o hb => by rw [upd_ne (ne_of_none hb hD)]; exact e b o hb
    · rw [hl, tk, List.filter_append, List.map_append]
      simp [hp]
  · have e2 : j = x.cps.size := by omega
    subst e2
    refine .inl ⟨Nat.le_refl _, hd D H hD ?_ e⟩
    rw [hl, List.take_of_length_le (by simp)]
/-! ### sorted(set(..)) of a list or a tuple -/
section
variable {P : Program} {w : World} {A : Around} {E : Value → Shared → Prop} {s : Shared}
set_option maxHeartbeats 8000000 in
theorem call_set_intsT {l : Addr} {items : Array Value} (ns : List Int) {Q : Value → Shared → Prop} (hh : A.handled = none) (hl : s.heap.IsTuple l items) (hit : IntsAre items.toList ns) (hfew : ns.length + 1 < scanBound)
    (h : ∀ (h' : Heap) (tk : Nat) T m, SetR w h' s.heap.objs.size T m → GotI ns ns.length T m → (∀ b o, s.heap.get? b = some o → h'.get? b = some o) → Q (.ref s.heap.objs.size) { s with heap := h', toks := tk }) :
    wpAny (model P w) A (call (.type "set") [.ref l]) Q E s := by
  have hisz : items.size = ns.length := by
    have q := IntsAre.length hit
    rw [Array.length_toList] at q
    exact q
  obtain ⟨c, tl, hmro⟩ := F.called_set.mro
  have hmade := F.called_set.made
  have hsub := F.called_set.sub
  refine wpAny_call (codeAny_of_tree ?_)
  show wpAny _ _ (callAny (.type "set") _) _ _ _
  refine wpAny_pure ⟨Code.quiet_builtin _ (by decide +kernel), codeAny_builtin F.entry_type_call ?_⟩
  rw [Around.under_plain (weight_type_call_type "set" [.ref l] []) rfl]
  have h1 := F.called_set.notType
  have h2 := F.called_set.canCreate
  have hct := F.typeCall_set_1 (.ref l)
  repeat (any_goals (first | assumption | wp_step))

  refine codeAny_mono (code_set_led1 (.ref l) (E := E) (Q₁ := fun obj s₁ => obj = .ref s.heap.objs.size ∧ s₁ = { s with heap := s.heap.push { cls := .type "set", dict := none, data := .set #[] 0 (.fresh 0 0 (!w.params.followText "set-order")) } }) ⟨rfl, rfl⟩) fun r s₁ hr => ?_
  cases r with
  | error e => exact hr
  | ok fl =>
    cases fl with
    | ret obj =>
      obtain ⟨rfl, rfl⟩ := hr
      have hS : (s.heap.push { cls := .type "set", dict := none, data := .set #[] 0 (.fresh 0 0 (!w.params.followText "set-order")) }).get? s.heap.objs.size = some { cls := .type "set", dict := none, data := .set #[] 0 (.fresh 0 0 (!w.params.followText "set-order")) } := Heap.get?_push_size _ rfl
      have hT : Shared.TypeIs { s with heap := s.heap.push { cls := .type "set", dict := none, data := .set #[] 0 (.fresh 0 0 (!w.params.followText "set-order")) } } (.ref s.heap.objs.size) "set" := ⟨_, hS, rfl⟩
      have hli := F.called_set.init.lookup
      have hbi := F.called_set.init.bind (.ref s.heap.objs.size)
      repeat (any_goals (first | assumption | wp_step))

      refine codeAny_mono (codeAny_call_builtin (R := wants (fun r s₂ => r = .none ∧ ∃ h' tk T m, s₂ = { s with heap := h', toks := tk } ∧ SetR w h' s.heap.objs.size T m ∧ GotI ns ns.length T m ∧
          (∀ b o, s.heap.get? b = some o → h'.get? b = some o)) E) F.called_set.init.plain F.entry_set_init (check_set_init_1 hT ?_)) fun r₂ s₂ hr₂ => ?_
      · obtain ⟨ol, hol, hcl, nl, hdl⟩ := hl
        obtain ⟨ocls, odict, odata, oslots⟩ := ol
        simp only at hcl hdl
        subst hcl; subst hdl
        have hol' : (s.heap.push { cls := .type "set", dict := none, data := .set #[] 0 (.fresh 0 0 (!w.params.followText "set-order")) }).get? l = some { cls := .type "tuple", dict := odict, data := .seq items nl, slots := oslots } := Heap.get?_push_of_some _ hol
        have hsls := F.sub_tuple_set
        have hslf := F.sub_tuple_frozenset
        have hne : (Value.type "tuple" == Value.type "dict") = false := by decide
        have hl1 : (s.heap.push { cls := .type "set", dict := none, data := .set #[] 0 (.fresh 0 0 (!w.params.followText "set-order")) }).IsTuple l items := ⟨_, hol', rfl, nl, rfl⟩
        unfold Builtin.«set.__init__» noKeywords Builtin.Frozenset.updateFrom
        generalize hPI : pyIter = PI
        wp_walk
        subst hPI

        refine wpAny_pyIter_tuple hl1 ?_
        refine wpAny_bind (wpAny_runValue ?_)
        have hlS : l < s.heap.objs.size := Heap.lt_size hol
        have hh3 : A.in1.in1.in1.handled = none := by simp [hh]
        have hneI : l ≠ (s.heap.push { cls := .type "set", dict := none, data := .set #[] 0 (.fresh 0 0 (!w.params.followText "set-order")) }).objs.size := by
          rw [Heap.size_push]; exact Nat.ne_of_lt (Nat.lt_succ_of_lt hlS)
        have hSf : s.heap.objs.size ∉ [(s.heap.push { cls := .type "set", dict := none, data := .set #[] 0 (.fresh 0 0 (!w.params.followText "set-order")) }).objs.size, l] := by
          rw [Heap.size_push]; simp only [List.mem_cons, List.mem_singleton, List.not_mem_nil, or_false, not_or]
          exact ⟨Nat.ne_of_lt (Nat.lt_succ_self _), Nat.ne_of_gt hlS⟩
        have hval : ∀ (i : Nat) (v : Value), items[i]? = some v → ∃ k t, ns[i]? = some k ∧ v = .int k t := fun i v hv => by
          have q : items.toList[i]? = some v := by rw [Array.getElem?_toList]; exact hv
          obtain ⟨k, t, e1, e2⟩ := IntsAre.at hit i v q
          exact ⟨k, t, e2, e1⟩
        have none_of : ∀ b, s.heap.objs.size ≤ b → s.heap.get? b = none := fun b hb => by
          cases q : s.heap.get? b with
          | none => rfl
          | some o => exact absurd (Nat.lt_of_lt_of_le (Heap.lt_size q) hb) (Nat.lt_irrefl _)
        refine set_update_ints ((Walks.tuple hh3 _ l hneI items).toS) s.heap.objs.size
          hSf ns hisz hfew hval s.heap (none_of _ (Nat.le_refl _)) (fun b hb => none_of b (by
            rw [List.mem_singleton.mp hb, Heap.size_push]
            exact Nat.le_succ _)) (items.size - 0) 0 _ (by omega) (Nat.zero_le _)
          ⟨⟨_, Heap.get?_push_size _ rfl, rfl, rfl⟩, (hl1.push _)⟩ (fun b o e => Heap.get?_push_of_some _ (Heap.get?_push_of_some _ e)) ?hS0 ?hR
        case hS0 =>
          exact ⟨_, 0, (setR_fresh (h := s.heap) w).at fun o e => Heap.get?_push_of_some _ e, fun k => by simp, Nat.le_refl _⟩
        case hR =>
          intro s' T m hm hS' g' hkp
          obtain ⟨h', g2, d', tk', os'⟩ := s'
          have eg : g2 = s.gens := hm.gens
          have ed : d' = s.drawn := hm.drawn
          have eo : os' = s.os := hm.os
          subst eg; subst ed; subst eo
          show wpAny _ _ _ _ _ _
          refine wpAny_pure ?_
          show wpAny _ _ (ret Value.none) _ _ _
          rw [hisz] at g'
          exact wpAny_pure ⟨rfl, h', tk', T, m, rfl, hS', g', hkp⟩

      · cases r₂ with
        | error e => exact hr₂
        | ok fl₂ =>
          cases fl₂ with
          | ret r =>
            obtain ⟨rfl, h', tk, T, m, rfl, hS', g', hk'⟩ := hr₂
            repeat (any_goals (first | assumption | wp_step))
            exact h _ _ _ _ hS' g' hk'
          | _ => exact hr₂.elim
    | _ => exact hr.elim
end
section
variable {X : Cx}
def rSetA (K : Frag) (w : World) : List V → Hp → VK → Prop := fun xs H Q => ∃ (l : Addr) (ns D : List Int), xs = [V.ref l] ∧ SqA K H l (ns.map V.int) ∧ ns.length + 1 < scanBound ∧ (∀ z ∈ ns, z ∈ D) ∧ ∀ a T m, H a = none → (∀ k, T k = true ↔ k ∈ ns) → m ≤ D.length → Q (.ref a) (upd H a (SetO w a T m))
theorem cr_setA (hc : X.calm = true) : CallR X (.type "set") (rSetA X.K X.w) := by
  intro pins s σ H xs us Q I r h
  obtain ⟨l, ns, D, rfl, hl, hf, hD, q⟩ := h
  rcases hl with hl | hl
  · exact cr_setI hc pins s σ H [.ref l] us Q I r ⟨l, ns, D, rfl, hl, hf, hD, q⟩
  rw [Vals.ref1 r]
  obtain ⟨its, rv, pl, hz⟩ := I.tuple hl
  refine call_set_intsT (P := X.prog) (w := X.w) ns (I.ok.hd hc) (show s.heap.IsTuple l its.toArray from pl) (by simpa using ints_of_vals rv) hf fun h' tk T m R g k => ?_
  have hT : ∀ k, T k = true ↔ k ∈ ns := fun k => by have := g.1 k; rwa [List.take_length] at this
  exact ⟨.ref s.heap.objs.size, upd H s.heap.objs.size (SetO X.w s.heap.objs.size T m), I.laid (t' := tk) k (Nat.le_refl _) (setO_new R), rfl, q _ T m (I.hok.fresh (Nat.le_refl _)) hT (setR_le R fun k hk => hD k ((hT k).mp hk))⟩
structure SSetA (K : Frag) (H : Hp) (p : Addr) (Q : V → Hp → Prop) : Prop where
  ex : ∃ ns D : List Int, SqA K H p (ns.map V.int) ∧ ns.length + 1 < scanBound ∧ D.length < 64 ∧ (∀ z ∈ ns, z ∈ D) ∧ ∀ (rs : List Int) (q : Addr) (H' : Hp), rs.Pairwise (· < ·) → (∀ k, k ∈ rs ↔ k ∈ ns) → Same H H' → H q = none → H' q = some (.lst (rs.map V.int)) → Q (.ref q) H'
def dSSetA (K : Frag) (te : TE) : TE := fun σ H Q => te σ H fun x H1 => match x with
  | .ref p => SSetA K H1 p Q
  | _ => False
theorem pe_ssetA {e : Expr} {te : TE} {p1 p2 pos1 pos2 : Pos} (hc : X.calm = true) (h1 : X.mg "sorted" = none) (h2 : X.mg "set" = none) (b1 : bootBuiltins "sorted" = some (.builtin "sorted")) (b2 : bootBuiltins "set" = some (.type "set")) (he : PE X e te) (g1 : Gl X "sorted" := by rfl) (g2 : Gl X "set" := by rfl)
    (hs : starEach [.Call (.Name "set" p2) [e] [] pos2] X.env = (false, eval (.Call (.Name "set" p2) [e] [] pos2) X.env) :: starEach [] X.env := by rfl) (hs2 : starEach [e] X.env = (false, eval e X.env) :: starEach [] X.env := by rfl) :
    PE X (.Call (.Name "sorted" p1) [.Call (.Name "set" p2) [e] [] pos2] [] pos1) (dSSetA X.K te) := by
  have hi : PE X (.Call (.Name "set" p2) [e] [] pos2) (tCB (rSetA X.K X.w) (tCons (upE te) tNil)) := pe_ct (cr_setA hc) h2 b2 (pa_cons (pe_up he) pa_nil (hs := hs2)) g2 (by decide) (by decide) hs2 rfl
  have ho : PE X (.Call (.Name "sorted" p1) [.Call (.Name "set" p2) [e] [] pos2] [] pos1) (tCB (rSortedSet X.w) (tCons (tCB (rSetA X.K X.w) (tCons (upE te) tNil)) tNil)) := pe_cb (cr_sortedSet hc) h1 b1 (pa_cons hi pa_nil (hs := hs)) g1 (by decide) (by decide) hs rfl
  refine PE.of ho fun σ H Q q => ?_
  refine ⟨_, q, fun x H1 q1 => ?_⟩
  cases x <;> try exact q1.elim
  obtain ⟨ns, D, hl, hf, hD, hsub, q2⟩ := q1.ex
  refine ⟨_, ns, D, rfl, hl, hf, hsub, fun a T m na hT hm => ?_⟩
  refine ⟨a, T, m, rfl, upd_same, by omega, fun rs p hp hmem _ np => ?_⟩
  have e1 := same_new (o := SetO X.w a T m) na
  refine q2 rs p _ hp (fun k => (hmem k).trans (hT k)) (e1.trans (same_new np)) ?_ upd_same
  cases e : H1 p with
  | none => rfl
  | some o => rw [e1 _ _ e] at np; cases np
end
/-! ### except clauses without a name -/
def dTryO (K : Frag) (c : Str) (tb : WX → TS) (ts : Addr → Value → Option Addr → TS) (Wout : WX) : TS := fun D σ H => tb (wOnly K (.ref (He.ga K c)) ts Wout D) D σ H
theorem ps_tryO {X : Cx} {c : Str} {body suite : List Stmt} {b₀ : Stmt} {np pos pos' : Pos} {tb : WX → TS} {ts : Addr → Value → Option Addr → TS} {Wout : WX} (gc : X.mg c = some (.ref (He.ga X.K c))) (tk : Takes X Wout)
    (hb : ∀ (W : WX) (pn : List (Addr × Obj)) (xe : Value → Shared → Prop), Takes (X.tr pn xe) W → PassesOwn (model X.prog X.w) X.A X.env xe → PSs (X.tr pn xe) body (tb W))
    (hsu : ∀ (a : Addr) (oe : Obj) (cls : Value) (d : Option Addr) (pn : List (Addr × Obj)), Zc cls d oe → (∃ vs, oe.data = .fields vs) → PSs (X.suite a ((a, oe) :: pn)) (b₀ :: suite) (ts a cls d))
    (hs : X.stack = X.env :: X.outer := by rfl) (hf : X.env.frame = some X.env.locals := by rfl) (hg : Gl X c := by rfl) (hdb : (c == ("__debug__" : Str)) = false := by decide) :
    PS X (.Try body [.ExceptHandler (some (.Name c np)) none (b₀ :: suite) pos'] [] [] pos) (dTryO X.K c tb ts Wout) := ps_try_only hs hf ⟨hg, hdb, .inl gc⟩ tk hb hsu
theorem hdo_yes {K : Frag} {cls c : Value} {ts : Addr → Value → Option Addr → TS} {Wout : WX} {D : L2.Ends} {d : Option Addr} {σ : L2.St} {H : Hp} (h : PySem.W.exmOne K cls c = some true) (q : ∀ a, H a = none → ts a cls d D σ H) : wOnly K c ts Wout D cls d σ H := ⟨true, h, fun _ => q, fun z => nomatch z⟩
theorem hdo_no {K : Frag} {cls c : Value} {ts : Addr → Value → Option Addr → TS} {Wout : WX} {D : L2.Ends} {d : Option Addr} {σ : L2.St} {H : Hp} (h : PySem.W.exmOne K cls c = some false) (q : Wout cls d σ H) : wOnly K c ts Wout D cls d σ H := ⟨false, h, (fun z => nomatch z), fun _ => q⟩
end S
namespace S
open PySem PySem.Spec PyProof.Rows L2
structure NinS (x : V) (z : Str) (H : Hp) (Q : VK) : Prop where
  ex : ∃ c : Nat, x = .str ⟨#[c]⟩ ∧ Q (.bl (!decide (c ∈ z.cps.toList))) H
def oNinT (K : Frag) : R2 := fun x y H Q => match y with
  | .str z => NinS x z H Q
  | y => oNin K x y H Q
theorem op_ninT {X : Cx} : OpR X (compareOp .NotIn) (oNinT X.K) := by
  intro pins s σ H x y v u Q I rx ry q
  cases y with
  | str z =>
    have q : NinS x z H Q := q
    obtain ⟨c, rfl, q2⟩ := q.ex
    exact op_notIn_sign pins s σ H _ _ v u Q I rx ry ⟨c, z, rfl, rfl, q2⟩
  | _ => exact o_nin pins s σ H x _ v u Q I rx ry q
structure SlS (z : Str) (lo hi : Option Int) (H : Hp) (Q : VK) : Prop where
  c : z.length ≤ sizeLine
  q : Q (.str (cutS z lo hi)) H
def oSlT (K : Frag) : V → Option Int → Option Int → Hp → VK → Prop := fun x lo hi H Q => match x with
  | .str z => SlS z lo hi H Q
  | x => oSl K x lo hi H Q
theorem sl_anyT {X : Cx} : SlR X (oSlT X.K) := by
  intro pins s σ H x v vl vu lo hi sl Q I rx hs pl pu q
  cases x <;> first
    | exact sl_any pins s σ H _ v vl vu lo hi sl Q I rx hs pl pu q
    | exact sl_str pins s σ H _ v vl vu lo hi sl Q I rx hs pl pu ⟨_, rfl, q.c, q.q⟩
end S
namespace S
open PySem PySem.Spec PyProof.Rows L2
/-- a clause: its class, the slot of its name, its suite -/
structure Cl where
  c : Value
  nm : Option Nat
  ts : Addr → Value → Option Addr → TS
/-- what a clause's suite is asked -/
def Cl.run (k : Cl) (D : L2.Ends) (a : Addr) (cls : Value) (d : Option Addr) (σ : L2.St) (H : Hp) : Prop := match k.nm with
  | none => k.ts a cls d D σ H
  | some i => k.ts a cls d { nx := fun σ' H' => D.nx (σ'.set i none) H', rt := D.rt, bk := fun σ' H' => D.bk (σ'.set i none) H', ct := fun σ' H' => D.ct (σ'.set i none) H' } (σ.set i (some (.ref a))) H
/-- the clauses asked in order -/
def wCl (K : Frag) (Wout : WX) (D : L2.Ends) : List Cl → WX
  | [] => Wout
  | k :: r => fun cls d σ H => ∃ b, PySem.W.exmOne K cls k.c = some b ∧ (b = true → ∀ a, H a = none → k.run D a cls d σ H) ∧ (b = false → wCl K Wout D r cls d σ H)
def SuOk (X : Cx) (suite : List Stmt) (ts : Addr → Value → Option Addr → TS) : Prop := ∀ (a : Addr) (oe : Obj) (cls : Value) (d : Option Addr) (pn : List (Addr × Obj)), Zc cls d oe → (∃ vs, oe.data = .fields vs) → PSs (X.suite a ((a, oe) :: pn)) suite (ts a cls d)
inductive ClOk (X : Cx) : List ExceptHandler → List Cl → Prop
  | nil : ClOk X [] []
  | bare {x : Str} {c : Value} {ts : Addr → Value → Option Addr → TS} {b : Stmt} {suite : List Stmt} {np pos : Pos} {hs : List ExceptHandler} {l : List Cl} (hc : Names X x c) (hsu : SuOk X (b :: suite) ts) (r : ClOk X hs l) :
      ClOk X (.ExceptHandler (some (.Name x np)) none (b :: suite) pos :: hs) (⟨c, none, ts⟩ :: l)
  | named {x n : Str} {c : Value} {i : Nat} {ts : Addr → Value → Option Addr → TS} {b : Stmt} {suite : List Stmt} {np pos : Pos} {hs : List ExceptHandler} {l : List Cl} (hc : Names X x c) (hi : X.N[i]? = some n) (hln : X.env.kindOf n = some .local) (hsu : SuOk X (b :: suite) ts) (r : ClOk X hs l) :
      ClOk X (.ExceptHandler (some (.Name x np)) (some n) (b :: suite) pos :: hs) (⟨c, some i, ts⟩ :: l)
theorem ps_try_cl {X : Cx} {body : List Stmt} {h₀ : ExceptHandler} {hds : List ExceptHandler} {l : List Cl} {pos : Pos} {tb : WX → TS} {Wout : WX} (hN : X.N.Nodup) (tk : Takes X Wout)
    (hb : ∀ (W : WX) (pn : List (Addr × Obj)) (xe : Value → Shared → Prop), Takes (X.tr pn xe) W → PassesOwn (model X.prog X.w) X.A X.env xe → PSs (X.tr pn xe) body (tb W)) (hh : ClOk X (h₀ :: hds) l)
    (hs : X.stack = X.env :: X.outer := by rfl) (hf : X.env.frame = some X.env.locals := by rfl) : PS X (.Try body (h₀ :: hds) [] [] pos) (fun D σ H => tb (wCl X.K Wout D l) D σ H) := by
  refine ⟨fun pins s σ H D I hq => ?_⟩
  have ok := I.ok
  have frames : X.A.frames = some (X.env :: X.outer) := by rw [ok.frames, hs]
  let caught : Value → Shared → Prop := fun e s₁ => wpAny (model X.prog X.w) X.A (noteFrame e X.env) (fun _ s₂ => wpAny (model X.prog X.w) X.A (setFlight e none) (fun _ s₃ =>
    wpAny (model X.prog X.w) X.A (handleBy e X.env (h₀ :: hds)) (SP X pins D) X.xe s₃) X.xe s₂) X.xe s₁
  have land : Takes (X.tr (X.pn ++ pins) caught) (wCl X.K Wout D l) := by
    intro u s' xx
    obtain ⟨a, B, sI, pins', σ', H', cls, d, rfl, J', nb, up, sky, na, os, ag, w⟩ := xx
    have J : Inv X pins σ' H' sI := J'.ofTry ok
    show wpAny (model X.prog X.w) X.A (noteFrame (.ref a) X.env) _ _ _
    refine Sky.land Zc.steady frames hf (by rw [← hs]; exact sky) fun h3 fl3 up3 => ?_
    have J3 : Inv X pins σ' H' { s' with heap := h3 } := J.landed nb fl3.1 (up.trans up3) os ag
    obtain ⟨o3, vs3, g3, z3, d3⟩ := fl3.there
    have off : a ∉ frs (X.env :: X.outer) := fun hm => by
      obtain ⟨_, o', e', hnf⟩ := fl3.2.2.1.mem hm
      rw [g3] at e'
      cases e'
      exact hnf _ d3
    have nL : a ≠ X.env.locals := fun z => off (List.mem_filterMap.mpr ⟨X.env, List.mem_cons_self, by rw [hf, z]⟩)
    have nF : a ∉ X.fs := fun hm => by
      obtain ⟨e, he, q⟩ := List.mem_filterMap.mp hm
      exact off (List.mem_filterMap.mpr ⟨e, List.mem_cons_of_mem _ he, q⟩)
    have S3 := J3.suite g3 d3 na nL nF
    have look : PySem.W.Looks (model X.prog X.w) h3 (typeOf (.ref a)) cls := fun A Q E s k q => wpAny_typeOf_ref (k _ _ g3) (by rw [z3.1]; exact q)
    /- the class named by a clause -/
    have name : ∀ {x : Str} {c : Value} {np : Pos} {Q : Value → Shared → Prop} {E : Value → Shared → Prop}, Names X x c → Q c { s' with heap := h3 } → wpAny (model X.prog X.w) (X.A.mark (some (.ref a))) (eval (.Name x np) X.env) Q E { s' with heap := h3 } := fun {x c np Q E} hc q => by
      obtain ⟨hg, hdb, hm | ⟨hm, hv, hn⟩⟩ := hc
      · exact ld_glob (X := X.suite a ((a, o3) :: (X.pn ++ pins))) S3 hg hm q hdb
      · exact ld_blt (X := X.suite a ((a, o3) :: (X.pn ++ pins))) S3 hg hm hv q hn hdb
    have clauses : ∀ {hs' : List ExceptHandler} {l' : List Cl}, ClOk X hs' l' → wCl X.K Wout D l' cls d σ' H' → wpAny (model X.prog X.w) X.A (handleBy (.ref a) X.env hs') (SP X pins D) X.xe { s' with heap := h3 } := by
      intro hs' l' hk
      induction hk with
      | nil =>
        intro w
        refine wpAny_handleBy_nil ?_
        obtain ⟨_, _, _, _, _, T, _, _, he, _, hd, h1, _⟩ := id fl3
        unfold PySem.passOn
        refine wpAny_bind (wpAny_field he hd h1 ?_)
        rw [if_neg (show ¬ ((Value.ref T == Value.none) = true) from by simp)]
        have out : wpAny (model X.prog X.w) X.A (setFlight (.ref a) X.env.frame) (fun _ s4 => wpAny (model X.prog X.w) X.A (throw (.ref a) : Sem Flow) (SP X pins D) X.xe s4) X.xe { s' with heap := h3 } := by
          rw [hf]
          exact HandSPX.setFlight_upZ fl3 fun h4 hh4 up4 => wpAny_throw (tk _ _ ⟨a, B, sI, pins, σ', H', cls, d, rfl, J, nb, (up.trans up3).trans up4, .inr (.inr (by rw [hs]; exact hh4)), na, os, ag, w⟩)
        first
          | exact wpAny_bind (wpAny_pure (wpAny_bind out))
          | exact wpAny_bind out
      | @bare x c ts b suite np pos hs2 l2 hc hsu r ih =>
        rintro ⟨yes, hx, hyes, hno⟩
        refine wpAny_handleBy_cons (codeAny_handlers_test (name hc ((PySem.W.exm_one (M := model X.prog X.w) J3.kIn look hx).here ?_))) (by intro q; cases q)
        cases yes with
        | false => exact ih (hno rfl)
        | true =>
          refine codeAny_handlers_suite (HandSPX.lands_againZ fl3 fun h4 fl4 up4 => ?_)
          obtain ⟨o4, vs4, g4, z4, d4⟩ := fl4.there
          have S4 := (J.landed nb fl4.1 ((up.trans up3).trans up4) os ag : Inv X pins σ' H' { s' with heap := h4 }).suite g4 d4 na nL nF
          refine wpAny_mono ((hsu a o4 cls d (X.pn ++ pins) z4 ⟨_, d4⟩).run [] _ _ H' _ S4 (hyes rfl a na)) (fun f s6 hsp => ?_) (fun _ _ z => False.elim z)
          cases f with
          | next => exact let ⟨_, _, S6, q6⟩ := hsp; ⟨_, _, S6.unsuite ok, q6⟩
          | brk => exact let ⟨_, _, S6, q6⟩ := hsp; ⟨_, _, S6.unsuite ok, q6⟩
          | cont => exact let ⟨_, _, S6, q6⟩ := hsp; ⟨_, _, S6.unsuite ok, q6⟩
          | ret u => exact let ⟨_, _, _, S6, r6, q6⟩ := hsp; ⟨_, _, _, S6.unsuite ok, r6, q6⟩
      | @named x n c i ts b suite np pos hs2 l2 hc hi hln hsu r ih =>
        rintro ⟨yes, hx, hyes, hno⟩
        refine wpAny_handleBy_cons (codeAny_handlers_test (name hc ((PySem.W.exm_one (M := model X.prog X.w) J3.kIn look hx).here ?_))) (by intro q; cases q)
        cases yes with
        | false => exact ih (hno rfl)
        | true =>
          refine codeAny_handlers_suite_as (HandSPX.lands_againZ fl3 fun h4 fl4 up4 => ?_)
          obtain ⟨o4, vs4, g4, z4, d4⟩ := fl4.there
          have S4 := (J.landed nb fl4.1 ((up.trans up3).trans up4) os ag : Inv X pins σ' H' { s' with heap := h4 }).suite g4 d4 na nL nF
          refine store_ok (X := X.suite a ((a, o4) :: (X.pn ++ pins))) (v := .ref a) S4 hN hi (.inl hln) rfl (fun s5 S5 => ?_) (.inr hln)
          refine wpAny_mono ((hsu a o4 cls d (X.pn ++ pins) z4 ⟨_, d4⟩).run [] s5 _ H' _ S5 (hyes rfl a na)) (fun f s6 hsp => ?_) (fun _ _ z => False.elim z)
          have leave : ∀ {σ6 : L2.St} {H6 : Hp} {Q : Shared → Prop}, Inv (X.suite a ((a, o4) :: (X.pn ++ pins))) [] σ6 H6 s6 → (∀ s7, Inv X pins (σ6.set i none) H6 s7 → Q s7) →
              wpAny (model X.prog X.w) X.A (do bindName X.env n .none; unbindBehindTheSuite X.env n pos) (fun _ s7 => Q s7) X.xe s6 := fun S6 hq => gone_ok (S6.unsuite ok) hN hi hln hq
          cases f with
          | next => exact let ⟨_, _, S6, q6⟩ := hsp; leave S6 fun s7 J7 => ⟨_, _, J7, q6⟩
          | brk => exact let ⟨_, _, S6, q6⟩ := hsp; leave S6 fun s7 J7 => ⟨_, _, J7, q6⟩
          | cont => exact let ⟨_, _, S6, q6⟩ := hsp; leave S6 fun s7 J7 => ⟨_, _, J7, q6⟩
          | ret u => exact let ⟨_, _, _, S6, r6, q6⟩ := hsp; leave S6 fun s7 J7 => ⟨_, _, _, J7, r6, q6⟩
    exact clauses hh w
  refine wpAny_Try_except (wpAny_mono ((hb (wCl X.K Wout D l) (X.pn ++ pins) caught land PassesOwn.looking).run [] s σ H D (I.toTry _) hq) (fun f s1 hsp => ?_) (fun e s1 he => he))
  cases f with
  | next =>
    obtain ⟨σ', H', J', q⟩ := hsp
    exact wpAny_execs_nil ⟨σ', H', J'.ofTry ok, q⟩
  | brk => exact let ⟨σ', H', J', q⟩ := hsp; ⟨σ', H', J'.ofTry ok, q⟩
  | cont => exact let ⟨σ', H', J', q⟩ := hsp; ⟨σ', H', J'.ofTry ok, q⟩
  | ret u => exact let ⟨v, σ', H', J', r, q⟩ := hsp; ⟨v, σ', H', J'.ofTry ok, r, q⟩
def dTryC (K : Frag) (l : List (Str × Option Nat × (Addr → Value → Option Addr → TS))) (tb : WX → TS) (Wout : WX) : TS := fun D σ H => tb (wCl K Wout D (l.map fun k => ⟨.ref (He.ga K k.1), k.2.1, k.2.2⟩)) D σ H
/-- one clause asked -/
theorem cl_yes {K : Frag} {Wout : WX} {D : L2.Ends} {k : Cl} {r : List Cl} {cls : Value} {d : Option Addr} {σ : L2.St} {H : Hp} (h : PySem.W.exmOne K cls k.c = some true) (q : ∀ a, H a = none → k.run D a cls d σ H) : wCl K Wout D (k :: r) cls d σ H := ⟨true, h, fun _ => q, fun z => nomatch z⟩
theorem cl_no {K : Frag} {Wout : WX} {D : L2.Ends} {k : Cl} {r : List Cl} {cls : Value} {d : Option Addr} {σ : L2.St} {H : Hp} (h : PySem.W.exmOne K cls k.c = some false) (q : wCl K Wout D r cls d σ H) : wCl K Wout D (k :: r) cls d σ H := ⟨false, h, (fun z => nomatch z), fun _ => q⟩
/-- except A as e: .. except B: .. -/
theorem ps_try2 {X : Cx} {c1 c2 n : Str} {i : Nat} {body s1 s2 : List Stmt} {b1 b2 : Stmt} {np1 np2 p1 p2 pos : Pos} {tb : WX → TS} {ts1 ts2 : Addr → Value → Option Addr → TS} {Wout : WX} (hN : X.N.Nodup) (g1 : X.mg c1 = some (.ref (He.ga X.K c1))) (g2 : X.mg c2 = some (.ref (He.ga X.K c2))) (tk : Takes X Wout)
    (hb : ∀ (W : WX) (pn : List (Addr × Obj)) (xe : Value → Shared → Prop), Takes (X.tr pn xe) W → PassesOwn (model X.prog X.w) X.A X.env xe → PSs (X.tr pn xe) body (tb W)) (h1 : SuOk X (b1 :: s1) ts1) (h2 : SuOk X (b2 :: s2) ts2)
    (hs : X.stack = X.env :: X.outer := by rfl) (hf : X.env.frame = some X.env.locals := by rfl) (hi : X.N[i]? = some n := by rfl) (hln : X.env.kindOf n = some .local := by rfl) (hg1 : Gl X c1 := by rfl) (hg2 : Gl X c2 := by rfl) (hd1 : (c1 == ("__debug__" : Str)) = false := by decide) (hd2 : (c2 == ("__debug__" : Str)) = false := by decide) :
    PS X (.Try body [.ExceptHandler (some (.Name c1 np1)) (some n) (b1 :: s1) p1, .ExceptHandler (some (.Name c2 np2)) none (b2 :: s2) p2] [] [] pos) (dTryC X.K [(c1, some i, ts1), (c2, none, ts2)] tb Wout) :=
  ps_try_cl hN tk hb (.named ⟨hg1, hd1, .inl g1⟩ hi hln h1 (.bare ⟨hg2, hd2, .inl g2⟩ h2 .nil)) hs hf
end S
namespace S
open PySem PySem.Spec PyProof.Rows L2
structure PopAt (xs : List V) (i : Int) (k : V → List V → Prop) : Prop where
  ex : ∃ (j : Nat) (y : V), i = j ∧ xs[j]? = some y ∧ xs.length ≤ sizeLine ∧ k y (xs.eraseIdx j)
def mPopAt : M2 := mL fun xs vs _ k => match vs with
  | [.int i] => PopAt xs i k
  | _ => False
theorem m_popAt {X : Cx} : MtR X "list.pop" mPopAt := MtR.of mt_popAt fun x vs H Q q => by
  cases x <;> try exact q.elim
  match vs, q with
  | [.int i], ⟨⟨xs, h, hp⟩⟩ =>
    obtain ⟨j, y, hi, hy, hz, q⟩ := hp.ex
    subst hi
    have hj := (List.getElem?_eq_some_iff.mp hy).1
    rw [sizeLine_eq] at hz
    refine ⟨_, xs, (j : Int), j, y, rfl, rfl, h, by omega, by omega, ?_, hy, q⟩
    unfold seqIndex?
    have h0 : ¬ (j : Int) < 0 := by omega
    have h1 : (0 : Int) ≤ (j : Int) := by omega
    have h2 : (j : Int) < (xs.length : Int) := by omega
    simp [h0, h1, h2, hj]
/-- a method of a text -/
def dMS (r : V → List V → Hp → VK → Prop) (to : TE) (t : TA) : TE := fun σ H Q => to σ H fun x H1 => match x with
  | .str l => t σ H1 fun vs H2 => r (.str l) vs H2 Q
  | _ => False
theorem pe_ms {X : Cx} {o e : Expr} {es : List Expr} {to : TE} {t : TA} {name : Str} {apos cpos : Pos} {id : String} {r : V → List V → Hp → VK → Prop} (slot : Slot "str" name id) (hty : typeOf (.builtin id) = pure (.type "method_descriptor")) (hm : MtR X id r) (ho : PE X o to) (ha : PA X (e :: es) t)
    (hbase : attributeBase o name X.env (eval o X.env) = eval o X.env := by rfl)
    (hfew : ((backTo cpos (starEach (e :: es) X.env)).all (fun x => !x.1) && (backToKw cpos (keywordEach [] X.env)).all (fun x => x.1.isSome)
      && decide ((e :: es).length + ([] : List Keyword).length + (if ([] : List Keyword).isEmpty then 0 else 1) < 30)) = true := by rfl)
    (hline : (apos.endLine == cpos.line) = true := by rfl) (hs : starEach (e :: es) X.env = (false, eval e X.env) :: starEach es X.env := by rfl) (hplain : (backTo cpos (starEach es X.env)).any (·.1) = false := by rfl) :
    PE X (.Call (.Attribute o name apos) (e :: es) [] cpos) (dMS r to t) := by
  refine ⟨fun pins s σ H Q I h => ?_⟩
  refine wpAny_Call_method_late hbase hfew hline rfl (thn (ho.run pins s σ H _ I h) fun v s1 ⟨x, H1, I1, r1, q1⟩ => ?_)
  cases x <;> try exact q1.elim
  obtain ⟨h1, h2⟩ := tyV_is (T := "str") I1 r1 rfl
  refine ⟨"str", id, PySem.F.plainAttrs_str, slot, hty, h1, h2, ?_⟩
  have hA := ha.run cpos pins s1 σ H1 _ I1 q1
  rw [hs] at hA ⊢
  refine Calls.callWith_builtin (by show (false || (backTo cpos (starEach es X.env)).any (·.1)) = false; rw [hplain] <;> rfl) (Calls.evalArgs_plain ?_)
  exact thn hA fun us s2 ⟨vs, H2, I2, r2, q2⟩ => hm pins s2 σ H2 _ vs _ us Q I2 r1 r2 q2
structure JoinS (K : Frag) (a : Str) (H : Hp) (p : Addr) (Q : VK) : Prop where
  ex : ∃ ys : List Str, SqA K H p (ys.map V.str) ∧ (ys.map (·.length)).sum + ys.length * a.length ≤ 16777216 ∧ Q (.str (Txt.join a ys)) H
def mJoin (K : Frag) : V → List V → Hp → VK → Prop := fun x vs H Q => match x, vs with
  | .str a, [.ref p] => JoinS K a H p Q
  | _, _ => False
theorem m_join {X : Cx} : MtR X "str.join" (mJoin X.K) := MtR.of mt_join fun x vs H Q q => by
  cases x <;> try exact q.elim
  match vs, q with
  | [.ref p], ⟨⟨ys, h1, h2, h3⟩⟩ => exact ⟨_, p, ys, rfl, rfl, h1, h2, h3⟩
end S
namespace S
open PySem PySem.Spec PyProof.Rows L2
theorem pe_gstr {X : Cx} {x z : Str} {pos : Pos} (hg : Gl X x) (hm : ∃ t, X.mg x = some (.str z t)) (hd : (x == ("__debug__" : Str)) = false := by decide) : PE X (.Name x pos) (tC (.str z)) := by
  obtain ⟨t, e⟩ := hm
  exact pe_glob hg e ⟨t, rfl⟩ hd
theorem pe_gint {X : Cx} {x : Str} {i : Int} {pos : Pos} (hg : Gl X x) (hm : ∃ t, X.mg x = some (.int i t)) (hd : (x == ("__debug__" : Str)) = false := by decide) : PE X (.Name x pos) (tC (.int i)) := by
  obtain ⟨t, e⟩ := hm
  exact pe_glob hg e ⟨t, rfl⟩ hd
theorem maxOf_cons (x y : Int) (ys : List Int) : PySem.W.maxOf y (x :: ys) = PySem.W.maxOf (if y < x then x else y) ys := by
  show List.foldl _ (if decide (y < x) = true then x else y) ys = _
  by_cases h : y < x
  · rw [if_pos (decide_eq_true h), if_pos h]; rfl
  · rw [if_neg (fun z => h (of_decide_eq_true z)), if_neg h]; rfl
theorem maxOf_in : ∀ (ys : List Int) (y : Int), PySem.W.maxOf y ys ∈ y :: ys ∧ ∀ z ∈ y :: ys, z ≤ PySem.W.maxOf y ys
  | [], y => ⟨List.mem_cons_self .., fun z hz => by rw [List.mem_singleton.mp hz]; exact Int.le_refl _⟩
  | x :: ys, y => by
    have e := maxOf_cons x y ys
    by_cases h : y < x
    · rw [if_pos h] at e
      obtain ⟨h1, h2⟩ := maxOf_in ys x
      rw [e]
      refine ⟨List.mem_cons_of_mem _ h1, fun z hz => ?_⟩
      rcases List.mem_cons.mp hz with rfl | hz
      · have := h2 _ (List.mem_cons_self ..); omega
      · exact h2 z hz
    · rw [if_neg h] at e
      obtain ⟨h1, h2⟩ := maxOf_in ys y
      have h3 := h2 _ (List.mem_cons_self ..)
      rw [e]
      refine ⟨?_, fun z hz => ?_⟩
      · rcases List.mem_cons.mp h1 with h | h
        · rw [h]; exact List.mem_cons_self ..
        · exact List.mem_cons_of_mem _ (List.mem_cons_of_mem _ h)
      · rcases List.mem_cons.mp hz with rfl | hz
        · exact h3
        · rcases List.mem_cons.mp hz with rfl | hz
          · omega
          · exact h2 z (List.mem_cons_of_mem _ hz)
structure MaxD (K : Frag) (H : Hp) (p : Addr) (d : Int) (Q : VK) : Prop where
  ex : ∃ ns : List Int, SqL K H p (ns.map V.int) ∧ (ns = [] → Q (.int d) H) ∧ ∀ m ∈ ns, (∀ z ∈ ns, z ≤ m) → Q (.int m) H
def cMaxD (K : Frag) : List V → List V → Hp → VK → Prop := fun vs zs H Q => match vs, zs with
  | [.ref p], [.int d] => MaxD K H p d Q
  | _, _ => False
theorem c_maxD {X : Cx} (hc : X.calm = true) (hu : X.A.units + 64 < cLine) : CallRK X (.builtin "max") ["default"] (cMaxD X.K) := by
  intro pins s σ H xs zs us ws Q I r r2 h
  match xs, zs, h with
  | [.ref p], [.int d], ⟨⟨ns, hs, q0, q1⟩⟩ =>
    rw [Vals.ref1 r]
    obtain ⟨w, rfl, rw_⟩ := r2.one
    obtain ⟨its, rv, hl, hz⟩ := I.list hs
    have hold : PySem.W.HoldAll s.heap its.toArray.toList ns := by
      obtain ⟨as, h⟩ := Dp.readsAll I _ _ _ (dpAll_ints (K := X.K) (H := H) ns) rv
      exact ⟨as, h⟩
    show wpAny _ _ (call (.builtin "max") [.ref p] [(Str.ofString "default", w)]) _ _ _
    refine PySem.W.max_list_datum_default (I.ok.hd hc) hl.isList hold (by show X.A.units + 1 + 0 < cLine; omega) (fun e h' tk k => ?_) fun y ys i v h' tk e hv hh k => ?_
    · exact ⟨.int d, H, I.kept k, rw_, q0 e⟩
    · subst e
      obtain ⟨m1, m2⟩ := maxOf_in ys y
      refine ⟨.int (PySem.W.maxOf y ys), H, I.kept k, ?_, q1 _ m1 m2⟩
      obtain ⟨as, hr⟩ := hh
      cases hr
      exact ⟨_, rfl⟩
end S
namespace S
open PySem PySem.Spec PyProof.Rows L2
/-- the second loop of a comprehension whose list stands at D -/
def Lc2In (D : Addr) (g1 : TG) (tt1 : TT) (te : TE) (vs1 : List Nat) (σ2 : L2.St) (Nx : Hp → Prop) (J1 : It) (H4 : Hp) : Prop := ∃ W1 : Nat → Nat → Hp → Prop, (∃ m, W1 0 m H4) ∧ ∀ j k H, W1 j k H →
  (J1.stop j H ∧ Nx H) ∨ (J1.go j H ∧ ∃ Nx1 : Hp → Prop, (∀ H', Nx1 H' → ∃ k', k' < k ∧ W1 (j + 1) k' H') ∧ ∀ x H', J1.yld j H x H' → g1 x (wipe σ2 vs1) H' fun σ3 H5 => wipe σ3 vs1 = wipe σ2 vs1 ∧ tt1 σ3 H5 fun b H6 =>
    if b = true then te σ3 H6 fun y H7 => ∃ acc, H7 D = some (.lst acc) ∧ acc.length < sizeLine ∧ Nx1 (upd H7 D (.lst (acc ++ [y]))) else Nx1 H6)
def Lc2Go (g : TG) (tt : TT) (wi1 : TI) (g1 : TG) (tt1 : TT) (te : TE) (vs vs1 : List Nat) (σ : L2.St) (Q : VK) (J : It) (H1 : Hp) : Prop :=
  ∀ D, H1 D = none → ∃ W : Nat → Nat → Hp → Prop, (∃ m, W 0 m (upd H1 D (.lst []))) ∧ ∀ i m H, W i m H →
    (J.stop i H ∧ Q (.ref D) H) ∨ (J.go i H ∧ ∃ Nx : Hp → Prop, (∀ H', Nx H' → ∃ m', m' < m ∧ W (i + 1) m' H') ∧ ∀ x H', J.yld i H x H' → g x (wipe σ vs) H' fun σ2 H2 => wipe σ2 vs = wipe σ vs ∧ tt σ2 H2 fun b H3 =>
      if b = true then wi1 σ2 H3 (Wr (Lc2In D g1 tt1 te vs1 σ2 Nx)) else Nx H3)
def dLc2 (wi : TI) (g : TG) (tt : TT) (wi1 : TI) (g1 : TG) (tt1 : TT) (te : TE) (vs vs1 : List Nat) : TE := fun σ H Q => wi σ H (Wr (Lc2Go g tt wi1 g1 tt1 te vs vs1 σ Q))
section
variable {X : Cx} {elt tg iter tg1 iter1 : Expr} {ifs ifs1 : List Expr} {scope : Scope} {own : List (Str × Nat)} {vs1 : List Nat} {pos spos : Pos} {wi wi1 : TI} {g g1 : TG} {tt tt1 : TT} {te : TE}
theorem pe_lc2 (hc : X.calm = true) (hN : X.N.Nodup) (hi : PI X tg iter wi) (ok : BlkOk X.N X.env.scope scope own) (hv : ∀ i ∈ vs1, i ∈ own.map (·.2))
    (hg : ∀ (s : Shared) (H : Hp) (C : Addr) (cl : List (Str × Addr)) (fp : List Addr), PG (X.blk s H scope (compEnvC scope cl C X.env) fp) tg g) (ht : ∀ (s : Shared) (H : Hp) (C : Addr) (cl : List (Str × Addr)) (fp : List Addr), PTs (X.blk s H scope (compEnvC scope cl C X.env) fp) ifs tt)
    (hi1 : ∀ (s : Shared) (H : Hp) (C : Addr) (cl : List (Str × Addr)) (fp : List Addr), PI (X.blk s H scope (compEnvC scope cl C X.env) fp) tg1 iter1 wi1)
    (hg1 : ∀ (s : Shared) (H : Hp) (C : Addr) (cl : List (Str × Addr)) (fp : List Addr), PG (X.blk s H scope (compEnvC scope cl C X.env) fp) tg1 g1) (ht1 : ∀ (s : Shared) (H : Hp) (C : Addr) (cl : List (Str × Addr)) (fp : List Addr), PTs (X.blk s H scope (compEnvC scope cl C X.env) fp) ifs1 tt1)
    (he : ∀ (s : Shared) (H : Hp) (C : Addr) (cl : List (Str × Addr)) (fp : List Addr), PE (X.blk s H scope (compEnvC scope cl C X.env) fp) elt te) (hs : ∀ x, foldedSetIterable iter X.env x = pure x := by intro _; rfl) (hs1 : ∀ env x, foldedSetIterable iter1 env x = pure x := by intro _ _; rfl) :
    PE X (.ListComp elt [⟨tg, iter, ifs, 0⟩, ⟨tg1, iter1, ifs1, 0⟩] scope pos) (dLc2 wi g tt wi1 g1 tt1 te (own.map (·.2)) vs1) := L2.pe_lc2 hc hN (pi_wr hi) ok hv hg ht (fun s H C cl fp => pi_wr (hi1 s H C cl fp)) hg1 ht1 he hs hs1
theorem ps_setLc2 {i : Nat} {y : Str} {py : Pos} (hc : X.calm = true) (hN : X.N.Nodup) (hy : X.N[i]? = some y) (hyl : X.env.scope.names.lookup y = some .local)
    (hsw : swapsWith (.ListComp elt [⟨tg, iter, ifs, 0⟩, ⟨tg1, iter1, ifs1, 0⟩] scope pos) (some (.Name y py)) spos.line X.env = pure true) (hi : PI X tg iter wi) (ok : BlkOk X.N X.env.scope scope own) (hv : ∀ i ∈ vs1, i ∈ own.map (·.2))
    (hg : ∀ (s : Shared) (H : Hp) (C : Addr) (cl : List (Str × Addr)) (fp : List Addr), PG (X.blk s H scope (compEnvC scope cl C X.env) fp) tg g) (ht : ∀ (s : Shared) (H : Hp) (C : Addr) (cl : List (Str × Addr)) (fp : List Addr), PTs (X.blk s H scope (compEnvC scope cl C X.env) fp) ifs tt)
    (hi1 : ∀ (s : Shared) (H : Hp) (C : Addr) (cl : List (Str × Addr)) (fp : List Addr), PI (X.blk s H scope (compEnvC scope cl C X.env) fp) tg1 iter1 wi1)
    (hg1 : ∀ (s : Shared) (H : Hp) (C : Addr) (cl : List (Str × Addr)) (fp : List Addr), PG (X.blk s H scope (compEnvC scope cl C X.env) fp) tg1 g1) (ht1 : ∀ (s : Shared) (H : Hp) (C : Addr) (cl : List (Str × Addr)) (fp : List Addr), PTs (X.blk s H scope (compEnvC scope cl C X.env) fp) ifs1 tt1)
    (he : ∀ (s : Shared) (H : Hp) (C : Addr) (cl : List (Str × Addr)) (fp : List Addr), PE (X.blk s H scope (compEnvC scope cl C X.env) fp) elt te) (hs : ∀ x, foldedSetIterable iter X.env x = pure x := by intro _; rfl) (hs1 : ∀ env x, foldedSetIterable iter1 env x = pure x := by intro _ _; rfl) :
    PS X (.Assign [.Name y py] (.ListComp elt [⟨tg, iter, ifs, 0⟩, ⟨tg1, iter1, ifs1, 0⟩] scope pos) spos) (tAsg (dLc2 wi g tt wi1 g1 tt1 te (own.map (·.2)) vs1) (gName i)) := L2.ps_setLc2 hc hN hy hyl hsw (pi_wr hi) ok hv hg ht (fun s H C cl fp => pi_wr (hi1 s H C cl fp)) hg1 ht1 he hs hs1
end
/-- over a list or a tuple that stood at H0, by a word over (turn, heap) -/
theorem lc2_seq {K : Frag} {p : Addr} {xs : List V} {g : TG} {tt : TT} {wi1 : TI} {g1 : TG} {tt1 : TT} {te : TE} {vs vs1 : List Nat} {σ : L2.St} {H0 H1 : Hp} {Q : VK} (hx : SqA K H0 p xs) (e0 : Same H0 H1)
    (h : ∀ D, H1 D = none → ∃ Pv : Nat → Hp → Prop, Pv 0 (upd H1 D (.lst [])) ∧ (∀ i H, i ≤ xs.length → Pv i H → Same H0 H) ∧
      (∀ i x H, xs[i]? = some x → Pv i H → g x (wipe σ vs) H fun σ2 H2 => wipe σ2 vs = wipe σ vs ∧ tt σ2 H2 fun b H3 =>
        if b = true then wi1 σ2 H3 (Wr (Lc2In D g1 tt1 te vs1 σ2 (Pv (i + 1)))) else Pv (i + 1) H3) ∧ (∀ H, Pv xs.length H → Q (.ref D) H)) :
    Walk K H1 p (Wr (Lc2Go g tt wi1 g1 tt1 te vs vs1 σ Q)) := by
  rcases hx with hx | hx
  · refine ⟨.inl ⟨⟨xs, e0.seq hx⟩, ⟨fun D hD => ?_⟩⟩⟩
    obtain ⟨Pv, h0, hl, hs, hd⟩ := h D hD
    refine ⟨fun i m H => m = xs.length - i ∧ i ≤ xs.length ∧ Pv i H, ⟨xs.length, by simp, Nat.zero_le _, h0⟩, ?_⟩
    rintro i m H ⟨rfl, hi, p⟩
    have q := (hl i H hi p).seq hx
    by_cases hlt : i < xs.length
    · refine .inr ⟨⟨xs, xs[i], q, by simp [hlt]⟩, Pv (i + 1), fun H' p' => ⟨xs.length - (i + 1), by omega, rfl, hlt, p'⟩, fun x H' y => ?_⟩
      obtain ⟨e, y⟩ := y
      subst e
      exact hs i x _ (y xs q) p
    · have e : i = xs.length := by omega
      subst e
      exact .inl ⟨⟨xs, q, Nat.le_refl _⟩, hd H p⟩
  · refine ⟨.inr ⟨⟨xs, Same.tup e0 hx⟩, ⟨fun D hD => ?_⟩⟩⟩
    obtain ⟨Pv, h0, hl, hs, hd⟩ := h D hD
    refine ⟨fun i m H => m = xs.length - i ∧ i ≤ xs.length ∧ Pv i H, ⟨xs.length, by simp, Nat.zero_le _, h0⟩, ?_⟩
    rintro i m H ⟨rfl, hi, p⟩
    have q := Same.tup (hl i H hi p) hx
    by_cases hlt : i < xs.length
    · refine .inr ⟨⟨xs, xs[i], q, by simp [hlt]⟩, Pv (i + 1), fun H' p' => ⟨xs.length - (i + 1), by omega, rfl, hlt, p'⟩, fun x H' y => ?_⟩
      obtain ⟨e, y⟩ := y
      subst e
      exact hs i x _ (y xs q) p
    · have e : i = xs.length := by omega
      subst e
      exact .inl ⟨⟨xs, q, Nat.le_refl _⟩, hd H p⟩
/-- the second loop over a range -/
theorem lc2_rng {lo : Int} {n : Nat} {D : Addr} {g1 : TG} {tt1 : TT} {te : TE} {vs1 : List Nat} {σ2 : L2.St} {Nx : Hp → Prop} {H4 : Hp} (Pw : Nat → Hp → Prop) (h0 : Pw 0 H4)
    (hs : ∀ j H, j < n → Pw j H → g1 (.int (lo + j)) (wipe σ2 vs1) H fun σ3 H5 => wipe σ3 vs1 = wipe σ2 vs1 ∧ tt1 σ3 H5 fun b H6 =>
      if b = true then te σ3 H6 fun y H7 => ∃ acc, H7 D = some (.lst acc) ∧ acc.length < sizeLine ∧ Pw (j + 1) (upd H7 D (.lst (acc ++ [y]))) else Pw (j + 1) H6) (hd : ∀ H, Pw n H → Nx H) :
    Wr (Lc2In D g1 tt1 te vs1 σ2 Nx) (Itr lo n) H4 := by
  refine ⟨fun i m H => m = n - i ∧ i ≤ n ∧ Pw i H, ⟨n, by simp, Nat.zero_le _, h0⟩, ?_⟩
  rintro i m H ⟨rfl, hi, p⟩
  by_cases hlt : i < n
  · refine .inr ⟨hlt, Pw (i + 1), fun H' p' => ⟨n - (i + 1), by omega, rfl, hlt, p'⟩, fun x H' y => ?_⟩
    obtain ⟨e, y⟩ := y
    subst e y
    exact hs i _ hlt p
  · have e : i = n := by omega
    subst e
    exact .inl ⟨Nat.le_refl _, hd H p⟩
/-- the second loop over a list or a tuple -/
theorem lc2_in {K : Frag} {p : Addr} {xs : List V} {D : Addr} {g1 : TG} {tt1 : TT} {te : TE} {vs1 : List Nat} {σ2 : L2.St} {Nx : Hp → Prop} {H0 H4 : Hp} (hx : SqA K H0 p xs) (e0 : Same H0 H4) (Pw : Nat → Hp → Prop) (h0 : Pw 0 H4) (hl : ∀ j H, Pw j H → Same H0 H)
    (hs : ∀ j x H, xs[j]? = some x → Pw j H → g1 x (wipe σ2 vs1) H fun σ3 H5 => wipe σ3 vs1 = wipe σ2 vs1 ∧ tt1 σ3 H5 fun b H6 =>
      if b = true then te σ3 H6 fun y H7 => ∃ acc, H7 D = some (.lst acc) ∧ acc.length < sizeLine ∧ Pw (j + 1) (upd H7 D (.lst (acc ++ [y]))) else Pw (j + 1) H6) (hd : ∀ H, Pw xs.length H → Nx H) :
    Walk K H4 p (Wr (Lc2In D g1 tt1 te vs1 σ2 Nx)) := by
  rcases hx with hx | hx
  · refine ⟨.inl ⟨⟨xs, e0.seq hx⟩, ⟨?_⟩⟩⟩
    refine ⟨fun i m H => m = xs.length - i ∧ i ≤ xs.length ∧ Pw i H, ⟨xs.length, by simp, Nat.zero_le _, h0⟩, ?_⟩
    rintro i m H ⟨rfl, hi, p⟩
    have q := (hl i H p).seq hx
    by_cases hlt : i < xs.length
    · refine .inr ⟨⟨xs, xs[i], q, by simp [hlt]⟩, Pw (i + 1), fun H' p' => ⟨xs.length - (i + 1), by omega, rfl, hlt, p'⟩, fun x H' y => ?_⟩
      obtain ⟨e, y⟩ := y
      subst e
      exact hs i x _ (y xs q) p
    · have e : i = xs.length := by omega
      subst e
      exact .inl ⟨⟨xs, q, Nat.le_refl _⟩, hd H p⟩
  · refine ⟨.inr ⟨⟨xs, Same.tup e0 hx⟩, ⟨?_⟩⟩⟩
    refine ⟨fun i m H => m = xs.length - i ∧ i ≤ xs.length ∧ Pw i H, ⟨xs.length, by simp, Nat.zero_le _, h0⟩, ?_⟩
    rintro i m H ⟨rfl, hi, p⟩
    have q := Same.tup (hl i H p) hx
    by_cases hlt : i < xs.length
    · refine .inr ⟨⟨xs, xs[i], q, by simp [hlt]⟩, Pw (i + 1), fun H' p' => ⟨xs.length - (i + 1), by omega, rfl, hlt, p'⟩, fun x H' y => ?_⟩
      obtain ⟨e, y⟩ := y
      subst e
      exact hs i x _ (y xs q) p
    · have e : i = xs.length := by omega
      subst e
      exact .inl ⟨⟨xs, q, Nat.le_refl _⟩, hd H p⟩
end S
namespace S
open PySem PySem.Spec PyProof.Rows L2
structure LRg (a b : Int) (H : Hp) (Q : VK) : Prop where
  c : RgOk a b
  q : ∀ q, H q = none → Q (.ref q) (upd H q (.lst (rgV a b)))
def dLstR1 (ta : TE) : TE := fun σ H Q => ta σ H fun x H1 => match x with
  | .int n => LRg 0 n H1 Q
  | _ => False
theorem pe_lstR1 {X : Cx} {e : Expr} {ta : TE} {p p2 pos pos2 : Pos} (hc : X.calm = true) (hm : X.mg "list" = none) (hm2 : X.mg "range" = none) (ha : PE X e ta) (hg : Gl X "list" := by rfl) (hg2 : Gl X "range" := by rfl) (na : starEach [e] X.env = (false, eval e X.env) :: starEach [] X.env := by rfl)
    (na2 : starEach [.Call (.Name "range" p2) [e] [] pos2] X.env = (false, eval (.Call (.Name "range" p2) [e] [] pos2) X.env) :: starEach [] X.env := by rfl) : PE X (.Call (.Name "list" p) [.Call (.Name "range" p2) [e] [] pos2] [] pos) (dLstR1 ta) := by
  have h := pe_listRg (p := p) (pos := pos) hc hg hm (prg_1 (p := p2) (pos := pos2) hg2 hm2 (pe_up ha) na) na2
  refine PE.of h fun σ H Q q => ?_
  refine ⟨_, q, fun x H1 q1 => ?_⟩
  cases x <;> try exact q1.elim
  exact ⟨_, rfl, q1.c, q1.q⟩
/-- o.m(k = v, ..), o an instance with a dict -/
theorem pe_methDK0 {X : Cx} {k n : Nat} {g : Addr} {ks : List Str} {sp : Sp} {E : L2.St → XK} {c m : Str} {pos apos : Pos} {o : Expr} {kws : List Keyword} {tk : TA} {ta : TE} {gV : List V → List V → List V} {pl : Sem Bool} (hc : Cls X.K (He.ga X.K c)) (hm : Meth X.K (He.ga X.K c) m g) (F : FK X.prog X.w X.K X.mg X.base k g n ks sp gV) (hr : Room k X.A) (hx : ∀ σ, PassesAt (L2.CX X.prog X.w) X σ (E σ)) (he : PE X o ta) (hkw : PK X kws tk)
    (hall : (backToKw pos (keywordEach kws X.env)).all (·.1.isSome) = true := by rfl) (hks : (backToKw pos (keywordEach kws X.env)).filterMap (·.1) = ks := by rfl)
    (hpl : ((backTo pos (starEach [] X.env)).any (·.1) || (backToKw pos (keywordEach kws X.env)).any (·.1.isNone)) = false := by rfl)
    (ht : eval (.Call (.Attribute o m apos) [] kws pos) X.env = (do
      let ov ← eval o X.env
      standAt apos.atName
      let (f, first) ← holding [ov] (getMethod ov m pl)
      callWith pos f first (backTo pos (starEach [] X.env)) (backToKw pos (keywordEach kws X.env))) := by rfl) :
    PE X (.Call (.Attribute o m apos) [] kws pos) (dMethDK X.K c m n ks.length sp gV E ta tNil tk) := by
  refine ⟨fun pins s σ H Q I h => ?_⟩
  refine PySem.W.methodCall_KW (pl := pl) (thn (he.run pins s σ H _ I h) fun u s1 ⟨x, H1, I1, rx, q⟩ => ?_) ht
  cases x <;> try exact q.elim
  cases rx
  obtain ⟨⟨dx, fs, ea, l⟩, q⟩ := q
  refine getmeth_ok I1 ea hc hm l ?_
  refine PySem.W.callWith_KW0 (first := [.ref _]) (h₀ := X.base) I.ok.mod.kin hm.kp hall ?_ hpl
  refine thn (hkw.run pos pins s1 σ H1 _ I1 q) fun ws s3 ⟨zs, H3, I3, rz, l1, l2, q3⟩ => ⟨I3.kIn, ?_⟩
  rw [hks]
  exact run_FK (us := [.ref _]) (vs := [.ref _]) F hr (hx σ) I3 (.cons rfl .nil) rz (by simpa using l1) l2 q3
end S
namespace S
open PySem PySem.Spec PyProof.Rows L2
/-- the first difference decides, else the shorter is the less -/
def ltL : List Int → List Int → Bool := PySem.W.listLt
structure LeLs (K : Frag) (H : Hp) (a b : Addr) (k : Bool → Prop) : Prop where
  ex : ∃ xs ys : List Int, SqL K H a (xs.map V.int) ∧ SqL K H b (ys.map V.int) ∧ k (!ltL ys xs)
def oLeL (K : Frag) : R2 := fun x y H Q => match x, y with
  | .ref a, .ref b => LeLs K H a b fun r => Q (.bl r) H
  | x, y => oLe x y H Q
theorem o_leL {X : Cx} (hu : X.A.units + 64 < cLine) : OpR X (compareOp .LtE) (oLeL X.K) := by
  have h0 : OpR X (compareOp .LtE) oLe := o_le
  intro pins s σ H x y v u Q I rx ry q
  have two : ∀ a b, x = .ref a → y = .ref b → LeLs X.K H a b (fun r => Q (.bl r) H) → wpAny (model X.prog X.w) X.A (compareOp .LtE v u) (EP X pins σ Q) X.xe s := by
    intro a b ea eb h
    subst ea eb
    obtain ⟨xs, ys, hx, hy, q⟩ := h.ex
    have Ha : PySem.W.Holds s.heap v xs := by
      obtain ⟨as, h⟩ := Dp.reads I _ _ _ (.lst hx (dpAll_ints xs)) rx
      exact ⟨as, h⟩
    have Hb : PySem.W.Holds s.heap u ys := by
      obtain ⟨as, h⟩ := Dp.reads I _ _ _ (.lst hy (dpAll_ints ys)) ry
      exact ⟨as, h⟩
    exact PySem.W.le_datum Ha Hb (by show X.A.units + (0 + 1) < cLine; omega) ⟨.bl _, H, I, rfl, q⟩
  cases x <;> cases y <;> first
    | exact two _ _ rfl rfl q
    | exact h0 pins s σ H _ _ v u Q I rx ry q
end S
namespace S
open PySem PySem.Spec PyProof.Rows L2
/-! ### a new one -/
structure NewD (H : Hp) (u : HO) (Q : VK) : Prop where
  go : ∀ p, H p = none → Q (.ref p) (upd H p u)
def dNewK : TE := fun _ H Q => NewD H (.dK []) Q
theorem pe_newK {X : Cx} {pos : Pos} : PE X (.Dict [] [] pos) dNewK := PE.of pe_dnewK fun σ H Q q => q.go
def dNewT : TE := fun _ H Q => NewD H (.dT []) Q
theorem pe_newT {X : Cx} {pos : Pos} : PE X (.Dict [] [] pos) dNewT := PE.of pe_dnewT fun σ H Q q => q.go
/-! ### d[k] -/
structure DG (H : Hp) (a : Addr) (y : V) (k : V → Prop) : Prop where
  ex : ∃ v, DGet H a y (some v) ∧ k v
theorem dget_k {H : Hp} {a : Addr} {kvs : List (Key × V)} {k : Key} {o : Option V} (e : L2.Rd H a (.dK kvs)) (l : valV kvs k = o) : DGet H a (kV k) o := .inl ⟨kvs, k, e, rfl, l.symm⟩
theorem DG.s {H : Hp} {a : Addr} {kvs : List (Key × V)} {z : Str} {v : V} {k : V → Prop} (e : L2.Rd H a (.dK kvs)) (l : valV kvs (.inr z) = some v) (q : k v) : DG H a (.str z) k := ⟨v, dget_k (k := .inr z) e l, q⟩
def oIxD (K : Frag) : R2 := fun x y H Q => match x, y with
  | .ref a, .str z => DG H a (.str z) fun v => Q v H
  | .ref a, .ref b => DG H a (.ref b) fun v => Q v H
  | x, y => oIx K x y H Q
theorem ix_dict {X : Cx} (hu : X.A.units + 64 < cLine) : IxR X (oIxD X.K) := by
  intro e1 e2 pins s σ H x y v u Q I rx ry q hs
  have two : ∀ a, x = .ref a → DG H a y (fun v => Q v H) → wpAny (model X.prog X.w) X.A (subscriptTail e1 e2 v u) (EP X pins σ Q) X.xe s := by
    intro a ea h9
    obtain ⟨z, g, q9⟩ := h9.ex
    subst ea
    cases rx
    exact tail_any (dict_typeIs I g) PySem.F.slot_dict_getitem.lookup (d_getItem (by omega) I g ry fun w' s' I' rw' => ⟨z, H, I', rw', q9⟩) hs
  cases x <;> cases y <;> first
    | exact two _ rfl q
    | exact ix_any e1 e2 pins s σ H _ _ v u Q I rx ry q hs
/-! ### k in d -/
structure DIn (H : Hp) (a : Addr) (y : V) (k : Bool → Prop) : Prop where
  ex : ∃ o, DGet H a y o ∧ k o.isSome
theorem DIn.s {H : Hp} {a : Addr} {kvs : List (Key × V)} {z : Str} {k : Bool → Prop} (e : L2.Rd H a (.dK kvs)) (q : k (valV kvs (.inr z)).isSome) : DIn H a (.str z) k := ⟨_, dget_k (k := .inr z) e rfl, q⟩
def oInD (K : Frag) : R2 := fun x y H Q => match y with
  | .ref a => DIn H a x fun b => Q (.bl b) H
  | y => oIn K x y H Q
theorem o_inD {X : Cx} (hu : X.A.units + 64 < cLine) : OpR X (compareOp .In) (oInD X.K) := by
  intro pins s σ H x y v u Q I rx ry q
  cases y with
  | ref a =>
    obtain ⟨⟨o, g, q⟩⟩ := q
    cases ry
    exact d_in (by omega) I g rx fun s' I' => ⟨.bl o.isSome, H, I', rfl, q⟩
  | _ => exact o_in pins s σ H x _ v u Q I rx ry q
def oNinD (K : Frag) : R2 := fun x y H Q => match y with
  | .ref a => DIn H a x fun b => Q (.bl (!b)) H
  | y => oNin K x y H Q
theorem o_ninD {X : Cx} (hu : X.A.units + 64 < cLine) : OpR X (compareOp .NotIn) (oNinD X.K) := by
  intro pins s σ H x y v u Q I rx ry q
  cases y with
  | ref a =>
    obtain ⟨⟨o, g, q⟩⟩ := q
    cases ry
    exact d_notIn (by omega) I g rx fun s' I' => ⟨.bl (!o.isSome), H, I', rfl, q⟩
  | _ => exact o_nin pins s σ H x _ v u Q I rx ry q
/-! ### d[k] = v -/
structure StD (H : Hp) (a : Addr) (i v : V) (k : Hp → Prop) : Prop where
  ex : ∃ H', DPut H a i v H' ∧ k H'
theorem StD.s {H : Hp} {a : Addr} {kvs : List (Key × V)} {z : Str} {v : V} {k : Hp → Prop} (e : H a = some (.dK kvs)) (hl : kvs.length < sizeLine) (q : k (upd H a (.dK (putK kvs (.inr z) v)))) : StD H a (.str z) v k := ⟨_, DPut.k (k := .inr z) e hl, q⟩
def oSetD : V → V → V → Hp → (Hp → Prop) → Prop := fun o i v H Q => match o, i with
  | .ref a, .str z => StD H a (.str z) v Q
  | .ref a, .ref b => StD H a (.ref b) v Q
  | o, i => oSet o i v H Q
theorem s_dict {X : Cx} (hu : X.A.units + 64 < cLine) : PSet X oSetD := by
  intro pins s σ H o i v uo ui uv Q I ro ri rv q
  have two : ∀ a, o = .ref a → StD H a i v Q → wpAny (model X.prog X.w) X.A (setItem uo ui uv) (fun x s' => ∃ H', L2.Inv X pins σ H' s' ∧ Q H') X.xe s := by
    intro a ea h9
    obtain ⟨H', g, q9⟩ := h9.ex
    exact set_dict (X := X) (by omega) pins s σ H o i v uo ui uv Q I ro ri rv ⟨a, H', ea, g, q9⟩
  cases o <;> cases i <;> first
    | exact two _ rfl q
    | exact s_list pins s σ H _ _ v uo ui uv Q I ro ri rv q
/-! ### d.get(k, x) -/
structure IsDc (H : Hp) (a : Addr) (q : Prop) : Prop where
  c : L2.IsD H a
  q : q
structure DGo (H : Hp) (a : Addr) (y : V) (k : Option V → Prop) : Prop where
  ex : ∃ o, DGet H a y o ∧ k o
theorem DGo.s {H : Hp} {a : Addr} {kvs : List (Key × V)} {z : Str} {k : Option V → Prop} (e : L2.Rd H a (.dK kvs)) (q : k (valV kvs (.inr z))) : DGo H a (.str z) k := ⟨_, dget_k (k := .inr z) e rfl, q⟩
def dGetD (td ty tx : TE) : TE := fun σ H Q => td σ H fun x H1 => match x with
  | .ref a => IsDc H1 a (ty σ H1 fun y H2 => tx σ H2 fun z H3 => DGo H3 a y fun o => Q (o.getD z) H3)
  | _ => False
theorem pe_getD {X : Cx} {o e f : Expr} {apos cpos : Pos} {td ty tx : TE} (hu : X.A.units + 64 < cLine) (ho : PE X o td) (he : PE X e ty) (hf : PE X f tx) (hb : attributeBase o "get" X.env (eval o X.env) = eval o X.env := by rfl)
    (hfew : ((backTo cpos (starEach [e, f] X.env)).all (fun x => !x.1) && (backToKw cpos (keywordEach [] X.env)).all (fun x => x.1.isSome)
      && decide (([e, f] : List Expr).length + ([] : List Keyword).length + (if ([] : List Keyword).isEmpty then 0 else 1) < 30)) = true := by rfl) (hline : (apos.endLine == cpos.line) = true := by rfl) (htr : backTo cpos (starEach [e, f] X.env) = [(false, eval e X.env), (false, eval f X.env)] := by rfl) :
    PE X (.Call (.Attribute o "get" apos) [e, f] [] cpos) (dGetD td ty tx) := by
  have h := pe_dget2 (by omega) (pe_up ho) (pe_up he) (pe_up hf) ⟨hb, hfew, hline, htr⟩
  refine PE.of h fun σ H Q q => ?_
  refine ⟨_, q, fun x H1 q1 => ?_⟩
  cases x <;> try exact q1.elim
  obtain ⟨c, q1⟩ := q1
  refine ⟨_, rfl, c, ?_⟩
  refine ⟨_, q1, fun y H2 q2 => ?_⟩
  refine ⟨_, q2, fun z H3 q3 => ?_⟩
  exact q3.ex
/-! ### tuples whose very object is known -/
def TupF (H : Hp) (a : Addr) (xs : List V) : Prop := ∃ o : Obj, H a = some (.frz o (.tup xs)) ∧ o.cls = .type "tuple" ∧ o.dict = none
theorem TupF.t {K : Frag} {H : Hp} {a : Addr} {xs : List V} (h : TupF H a xs) : SqT K H a xs := let ⟨o, h, _⟩ := h; .inl (.inr ⟨o, h⟩)
theorem TupF.same {H H' : Hp} {a : Addr} {xs : List V} (h : TupF H a xs) (e : Same H H') : TupF H' a xs := let ⟨o, h, c⟩ := h; ⟨o, e _ _ h, c⟩
theorem TupF.x {H H' : Hp} {a st : Addr} {xs : List V} (h : TupF H a xs) (e : SameX st H H') (n : ∀ o u, H st ≠ some (.frz o u)) : TupF H' a xs := let ⟨o, h, c⟩ := h; ⟨o, e _ _ h fun z => n _ _ (z ▸ h), c⟩
structure NewTF (H : Hp) (ys : List V) (Q : VK) : Prop where
  go : ∀ p H', Same H H' → H p = none → TupF H' p ys → Q (.ref p) H'
structure LsQ (K : Frag) (H : Hp) (p : Addr) (k : List V → Prop) : Prop where
  ex : ∃ xs, SqL K H p xs ∧ k xs
theorem LsQ.of {K : Frag} {H : Hp} {p : Addr} {k : List V → Prop} {xs : List V} (h : H p = some (.lst xs)) (q : k xs) : LsQ K H p k := ⟨xs, SqL.of h, q⟩
def cTupleF (K : Frag) : List V → Hp → VK → Prop := fun xs H Q => match xs with
  | [.ref p] => LsQ K H p fun ys => NewTF H ys Q
  | _ => False
theorem c_tupleF {X : Cx} : CallR X (.type "tuple") (cTupleF X.K) := by
  intro pins s σ H xs us Q I r h
  match xs, h with
  | [.ref p], ⟨⟨ys, hq, q⟩⟩ =>
    rw [Vals.ref1 r]
    obtain ⟨its, r', pl, hz⟩ := I.list hq
    have hlen := r'.length
    refine call_tuple_list pl.isList (fun h' kp => ?_) (by simp only [List.size_toArray] <;> omega)
    have I1 : Inv X pins σ H { s with heap := h' } := I.kept (t' := s.toks) kp
    have ho : (h'.push { cls := .type "tuple", data := .seq its.toArray }).get? h'.objs.size = some { cls := .type "tuple", data := .seq its.toArray } := Heap.get?_push_size _ rfl
    have I2 : Inv X pins σ (upd H h'.objs.size (.frz { cls := .type "tuple", data := .seq its.toArray } (.tup ys))) { s with heap := h'.push { cls := .type "tuple", data := .seq its.toArray } } :=
      I1.laid (t' := s.toks) (fun b o e => Heap.get?_push_of_some _ e) (Nat.le_refl _) (show ObjOk X.prog X.w _ _ _ (.frz _ (.tup ys)) from ⟨ho, hz, its, r', IsTup.new _ _⟩)
    have hn := I1.hok.fresh (Nat.le_refl h'.objs.size)
    exact ⟨.ref h'.objs.size, _, I2, rfl, q.go _ _ (same_new hn) hn ⟨_, upd_same, rfl, rfl⟩⟩
/-! ### dict(a tuple of pairs), dict(a list of pairs), dict(a dict) -/
structure DictC (K : Frag) (H : Hp) (a : Addr) (Q : VK) : Prop where
  ex : (∃ (ps : List Addr) (kvs : List (Key × V)), (TupF H a (ps.map V.ref) ∨ SqL K H a (ps.map V.ref)) ∧ Paired (fun p kv => SqT K H p [kV kv.1, kv.2]) ps kvs ∧ ∀ p, H p = none → Q (.ref p) (upd H p (.dK (mergeK [] kvs)))) ∨
    ∃ kvs : List (Key × V), L2.Rd H a (.dK kvs) ∧ ∀ p, H p = none → Q (.ref p) (upd H p (.dK kvs))
theorem DictC.t {K : Frag} {H : Hp} {a : Addr} {Q : VK} {ps : List Addr} {kvs : List (Key × V)} (h : TupF H a (ps.map V.ref)) (hp : Paired (fun p kv => SqT K H p [kV kv.1, kv.2]) ps kvs) (q : ∀ p, H p = none → Q (.ref p) (upd H p (.dK (mergeK [] kvs)))) : DictC K H a Q := ⟨.inl ⟨ps, kvs, .inl h, hp, q⟩⟩
theorem DictC.d {K : Frag} {H : Hp} {a : Addr} {Q : VK} {kvs : List (Key × V)} (h : L2.Rd H a (.dK kvs)) (q : ∀ p, H p = none → Q (.ref p) (upd H p (.dK kvs))) : DictC K H a Q := ⟨.inr ⟨kvs, h, q⟩⟩
def cDict (K : Frag) : List V → Hp → VK → Prop := fun xs H Q => match xs with
  | [.ref a] => DictC K H a Q
  | _ => False
theorem refs_at2 : ∀ {ps : List Addr} {us : List Value}, Vals (ps.map V.ref) us → us = ps.map Value.ref
  | [], _, h => by cases h; rfl
  | p :: ps, _, h => by
    cases h with
    | cons r t => cases r; rw [refs_at2 t]; rfl
theorem c_dict {X : Cx} (hc : X.calm = true) : CallR X (.type "dict") (cDict X.K) := by
  intro pins s σ H xs us Q I r h
  match xs, h with
  | [.ref a], ⟨h⟩ =>
    rcases h with ⟨ps, kvs, ht | hl, hp, q⟩ | ⟨kvs, hd, q⟩
    · rw [Vals.ref1 r]
      obtain ⟨o, ho, c1, c2⟩ := ht
      obtain ⟨hg, hz, its, rv, o2, ho2, _, n, hdat⟩ := I.hok _ _ ho
      rw [hg] at ho2
      injection ho2 with ho2
      subst ho2
      have ei := refs_at2 rv
      subst ei
      rw [List.length_map] at hz
      obtain ⟨prs, rel, hl, hpr⟩ := pairs_of I hp
      have hu : ∀ (j : Nat) (q : Key × Value), prs[j]? = some q → ∃ u : Value, ∃ b, ps[j]? = some b ∧ IsTup s.heap b #[u, q.2] ∧ keyIs q.1 u = true := fun j q e => let ⟨b, u, h⟩ := hpr j q e; ⟨u, b, h⟩
      let kf : Nat → Value := fun j => match e : prs[j]? with | some q => (hu j q e).choose | none => .none
      have kfs : ∀ (j : Nat) (q : Key × Value), prs[j]? = some q → ∃ b, ps[j]? = some b ∧ IsTup s.heap b #[kf j, q.2] ∧ keyIs q.1 (kf j) = true := fun j q e => by
        have hk : kf j = (hu j q e).choose := by
          show (match e : prs[j]? with | some q => (hu j q e).choose | none => .none) = _
          split
          · rename_i q2 e2
            have : q2 = q := Option.some.inj (e2.symm.trans e)
            subst this
            rfl
          · rename_i e2
            rw [e] at e2; cases e2
        rw [hk]
        exact (hu j q e).choose_spec
      let pv : List (Value × Value) := (List.range prs.length).filterMap fun j => (prs[j]?).map fun q => (kf j, q.2)
      have pvl : ∀ j, pv[j]? = (prs[j]?).map fun q => (kf j, q.2) := fun j => by
        have gen : ∀ n, n ≤ prs.length → ((List.range n).filterMap fun j => (prs[j]?).map fun q => (kf j, q.2)) = (List.range n).map fun j => (kf j, ((prs[j]?).map (·.2)).getD .none) := fun n hn => by
          induction n with
          | zero => rfl
          | succ n ih =>
            have hg : prs[n]? = some prs[n] := List.getElem?_eq_getElem (by omega)
            rw [List.range_succ, List.filterMap_append, ih (by omega), List.map_append]
            simp [hg]
        show ((List.range prs.length).filterMap _)[j]? = _
        rw [gen _ (Nat.le_refl _), List.getElem?_map]
        by_cases hj : j < prs.length
        · rw [List.getElem?_range hj]
          simp [List.getElem?_eq_getElem hj]
        · rw [List.getElem?_eq_none (by rw [List.length_range]; omega), List.getElem?_eq_none (by omega)]; rfl
      have pvn : pv.length = prs.length := by
        have h1 : pv[prs.length]? = none := by rw [pvl, List.getElem?_eq_none (Nat.le_refl _)]; rfl
        have h2 := List.getElem?_eq_none_iff.mp h1
        rcases Nat.lt_or_ge pv.length prs.length with h | h
        · have h3 := pvl pv.length
          rw [List.getElem?_eq_none (Nat.le_refl _), List.getElem?_eq_getElem h] at h3
          cases h3
        · omega
      refine PySem.call_dict_pairs (knd := mixKind X.prog X.w) (kvs := prs) (PairArg.tuple a (ps.map Value.ref).toArray (fun j => ps.getD j 0) pv) (I.ok.hd hc) ⟨⟨_, n, hg, c1, c2, hdat⟩, ?_, fun j k v e => ?_⟩ ⟨by rw [pvn], fun i key v e => ?_⟩ (by rw [pvn, hl]; exact hz) fun h' tk hd' k => ?_
      · show (ps.map Value.ref).toArray.size = _
        rw [List.size_toArray, List.length_map, pvn, hl]
      · rw [pvl] at e
        obtain ⟨q, e1, e2⟩ := Option.map_eq_some_iff.mp e
        injection e2 with e3 e4
        subst e3 e4
        obtain ⟨b, hb, htp, _⟩ := kfs j q e1
        refine ⟨?_, .inl ?_⟩
        · show (ps.map Value.ref).toArray[j]? = _
          rw [List.getElem?_toArray, List.getElem?_map, hb]
          show some (Value.ref b) = some (.ref (ps.getD j 0))
          rw [List.getD_eq_getElem?_getD, hb]; rfl
        · have eb : ps.getD j 0 = b := by rw [List.getD_eq_getElem?_getD, hb]; rfl
          show s.heap.IsTuple (ps.getD j 0) _
          rw [eb]
          exact htp
      · have e : pv[i]? = some (key, v) := e
        rw [pvl] at e
        obtain ⟨q, e1, e2⟩ := Option.map_eq_some_iff.mp e
        injection e2 with e3 e4
        subst e3 e4
        obtain ⟨b, _, _, hk⟩ := kfs i q e1
        exact ⟨q.1, e1, hk⟩
      · have hm : (s.heap.objs.size == sysModules) = false := beq_eq_false_iff_ne.mpr (Nat.ne_of_gt I.big)
        have hlen : (mergeK [] kvs).length ≤ sizeLine := by
          refine Nat.le_trans (length_mergeK kvs []) ?_
          rw [List.length_nil, Nat.zero_add, rel.length, hl]
          exact hz
        exact ⟨.ref s.heap.objs.size, upd H s.heap.objs.size (.dK (mergeK [] kvs)), I.laid (t' := tk) (fun b o e => k b o (fun z => nomatch z) e) (Nat.le_refl _) (show ObjOk X.prog X.w _ _ _ (.dK (mergeK [] kvs)) from ⟨hlen, hm, merged [] prs, KV.merge rel .nil, hd'⟩), rfl, q _ (I.hok.fresh (Nat.le_refl _))⟩
    · exact call_dictP hc pins s σ H [.ref a] us Q I r ⟨a, ps, kvs, rfl, hl, hp, q⟩
    · exact call_dictD pins s σ H [.ref a] us Q I r ⟨a, kvs, rfl, hd, q⟩
end S
namespace S
open PySem PySem.Spec PyProof.Rows L2
/-! ### sorted(list of numbers | list of texts | dict of texts) -/
structure SrtD (K : Frag) (H : Hp) (p : Addr) (Q : VK) : Prop where
  ex : Srt K H p Q ∨ (∃ xs : List Str, SqL K H p (xs.map V.str) ∧ xs.length < 64 ∧ ∀ ys q, ys.Perm xs → sortedS ys = true → H q = none → Q (.ref q) (upd H q (.lst (ys.map V.str)))) ∨
    ∃ (kvs : List (Key × V)) (ks : List Str), L2.Rd H p (.dK kvs) ∧ kvs.map (·.1) = ks.map Sum.inr ∧ ks.length < 64 ∧ ∀ ys q, ys.Perm ks → sortedS ys = true → H q = none → Q (.ref q) (upd H q (.lst (ys.map V.str)))
theorem SrtD.s {K : Frag} {H : Hp} {p : Addr} {Q : VK} {xs : List Str} (h : H p = some (.lst (xs.map V.str))) (l : xs.length < 64) (q : ∀ ys q, ys.Perm xs → sortedS ys = true → H q = none → Q (.ref q) (upd H q (.lst (ys.map V.str)))) : SrtD K H p Q := ⟨.inr (.inl ⟨xs, SqL.of h, l, q⟩)⟩
theorem SrtD.d {K : Frag} {H : Hp} {p : Addr} {Q : VK} {kvs : List (Key × V)} {ks : List Str} (h : L2.Rd H p (.dK kvs)) (hk : kvs.map (·.1) = ks.map Sum.inr) (l : ks.length < 64) (q : ∀ ys q, ys.Perm ks → sortedS ys = true → H q = none → Q (.ref q) (upd H q (.lst (ys.map V.str)))) : SrtD K H p Q := ⟨.inr (.inr ⟨kvs, ks, h, hk, l, q⟩)⟩
def cSortedD (K : Frag) : List V → Hp → VK → Prop := fun xs H Q => match xs with
  | [.ref p] => SrtD K H p Q
  | _ => False
theorem c_sortedD {X : Cx} (hc : X.calm = true) : CallR X (.builtin "sorted") (cSortedD X.K) := by
  intro pins s σ H xs us Q I r h
  match xs, h with
  | [.ref p], ⟨h⟩ =>
    rcases h with h | ⟨ys, h1, h2, q⟩ | ⟨kvs, ks, h1, h2, h3, q⟩
    · exact c_sorted pins s σ H [.ref p] us Q I r h
    · exact cr_sortedS pins s σ H [.ref p] us Q I r ⟨p, ys, rfl, h1, h2, q⟩
    · exact call_sortedD hc pins s σ H [.ref p] us Q I r ⟨p, kvs, ks, rfl, h1, h2, h3, q⟩
/-! ### list(sequence | dict) -/
structure LstD (K : Frag) (H : Hp) (p : Addr) (Q : VK) : Prop where
  ex : Rd K H p (fun ys => NewL H ys Q) ∨ ∃ kvs : List (Key × V), L2.Rd H p (.dK kvs) ∧ NewL H (kvs.map fun kv => kV kv.1) Q
theorem LstD.l {K : Frag} {H : Hp} {p : Addr} {Q : VK} (h : Rd K H p fun ys => NewL H ys Q) : LstD K H p Q := ⟨.inl h⟩
theorem LstD.d {K : Frag} {H : Hp} {p : Addr} {Q : VK} {kvs : List (Key × V)} (h : L2.Rd H p (.dK kvs)) (q : NewL H (kvs.map fun kv => kV kv.1) Q) : LstD K H p Q := ⟨.inr ⟨kvs, h, q⟩⟩
def cListD (K : Frag) : List V → Hp → VK → Prop := fun xs H Q => match xs with
  | [.ref p] => LstD K H p Q
  | _ => False
theorem c_listD {X : Cx} (hc : X.calm = true) : CallR X (.type "list") (cListD X.K) := by
  intro pins s σ H xs us Q I r h
  match xs, h with
  | [.ref p], ⟨h⟩ =>
    rcases h with h | ⟨kvs, h1, q⟩
    · exact c_list pins s σ H [.ref p] us Q I r h
    · exact call_listD hc pins s σ H [.ref p] us Q I r ⟨p, kvs, rfl, h1, q.go⟩
/-! ### {k: v} -/
structure DispS (H : Hp) (p : Addr) (z : Str) (v : V) (Q : VK) : Prop where
  c : H p = some (.dK [])
  q : Q (.ref p) (upd H p (.dK [(.inr z, v)]))
def dDisp1 (tk tv : TE) : TE := fun σ H Q => NewD H (.dK []) fun x H1 => tk σ H1 fun y H2 => tv σ H2 fun v H3 => match x, y with
  | .ref p, .str z => DispS H3 p z v Q
  | _, _ => False
theorem pe_disp1 {X : Cx} {k v : Expr} {tk tv : TE} {pos : Pos} (hk : PE X k tk) (hv : PE X v tv) : PE X (.Dict [some k] [v] pos) (dDisp1 tk tv) := by
  have h := pe_disp (pos := pos) (pps_cons (pe_up hk) (pe_up hv) pps_nil) rfl rfl (List.cons_ne_nil _ _) (by show 1 ≤ 15; decide)
  refine PE.of h fun σ H Q q => ?_
  intro p hp
  have q1 := q.go p hp
  refine ⟨_, q1, fun y H2 q2 => ?_⟩
  refine ⟨_, q2, fun z H3 q3 => ?_⟩
  cases y <;> try exact q3.elim
  rename_i w
  obtain ⟨c, q3⟩ := q3
  exact ⟨c, [(.inr w, z)], rfl, by show 1 ≤ 15; decide, q3⟩
/-! ### {k: v for ..} -/
def DcGo (g : TG) (tt : TT) (tk tv : TE) (vs : List Nat) (σ : L2.St) (Q : VK) (J : It) (H1 : Hp) : Prop :=
  ∀ D, H1 D = none → ∃ W : Nat → Nat → Hp → Prop, (∃ m, W 0 m (upd H1 D (.dK []))) ∧ ∀ i m H, W i m H →
    (J.stop i H ∧ Q (.ref D) H) ∨ (J.go i H ∧ ∃ Nx : Hp → Prop, (∀ H', Nx H' → ∃ m', m' < m ∧ W (i + 1) m' H') ∧ ∀ x H', J.yld i H x H' → g x (wipe σ vs) H' fun σ2 H2 => wipe σ2 vs = wipe σ vs ∧ tt σ2 H2 fun b H3 =>
      if b = true then tk σ2 H3 fun y H4 => tv σ2 H4 fun z H5 => ∃ kvs k, y = kV k ∧ H5 D = some (.dK kvs) ∧ kvs.length < sizeLine ∧ Nx (upd H5 D (.dK (putK kvs k z))) else Nx H3)
def dDc (wi : TI) (g : TG) (tt : TT) (tk tv : TE) (vs : List Nat) : TE := fun σ H Q => wi σ H (Wr (DcGo g tt tk tv vs σ Q))
theorem pe_dc {X : Cx} {kx vx tg iter : Expr} {ifs : List Expr} {scope : Scope} {own : List (Str × Nat)} {pos : Pos} {wi : TI} {g : TG} {tt : TT} {tk tv : TE} (hc : X.calm = true) (hN : X.N.Nodup) (hi : PI X tg iter wi) (ok : BlkOk X.N X.env.scope scope own)
    (hg : ∀ (s : Shared) (H : Hp) (C : Addr) (cl : List (Str × Addr)) (fp : List Addr), PG (X.blk s H scope (compEnvC scope cl C X.env) fp) tg g) (ht : ∀ (s : Shared) (H : Hp) (C : Addr) (cl : List (Str × Addr)) (fp : List Addr), PTs (X.blk s H scope (compEnvC scope cl C X.env) fp) ifs tt)
    (hk : ∀ (s : Shared) (H : Hp) (C : Addr) (cl : List (Str × Addr)) (fp : List Addr), PE (X.blk s H scope (compEnvC scope cl C X.env) fp) kx tk)
    (he : ∀ (s : Shared) (H : Hp) (C : Addr) (cl : List (Str × Addr)) (fp : List Addr), PE (X.blk s H scope (compEnvC scope cl C X.env) fp) vx tv) (hs : ∀ x, foldedSetIterable iter X.env x = pure x := by intro _; rfl) :
    PE X (.DictComp kx vx [⟨tg, iter, ifs, 0⟩] scope pos) (dDc wi g tt tk tv (own.map (·.2))) := L2.pe_dc hc hN (pi_wr hi) ok hg ht hk he hs
theorem dc_seq {K : Frag} {p : Addr} {xs : List V} {g : TG} {tt : TT} {tk tv : TE} {vs : List Nat} {σ : L2.St} {H1 : Hp} {Q : VK} (hx : SqA K H1 p xs)
    (h : ∀ D, H1 D = none → ∃ Pv : Nat → Hp → Prop, Pv 0 (upd H1 D (.dK [])) ∧ (∀ i H, i ≤ xs.length → Pv i H → Same H1 H) ∧
      (∀ i x H, xs[i]? = some x → Pv i H → g x (wipe σ vs) H fun σ2 H2 => wipe σ2 vs = wipe σ vs ∧ tt σ2 H2 fun b H3 =>
        if b = true then tk σ2 H3 fun y H4 => tv σ2 H4 fun z H5 => ∃ kvs k, y = kV k ∧ H5 D = some (.dK kvs) ∧ kvs.length < sizeLine ∧ Pv (i + 1) (upd H5 D (.dK (putK kvs k z))) else Pv (i + 1) H3) ∧ (∀ H, Pv xs.length H → Q (.ref D) H)) :
    Walk K H1 p (Wr (DcGo g tt tk tv vs σ Q)) := by
  rcases hx with hx | hx
  · refine ⟨.inl ⟨⟨xs, hx⟩, ⟨fun D hD => ?_⟩⟩⟩
    obtain ⟨Pv, h0, hl, hs, hd⟩ := h D hD
    refine ⟨fun i m H => m = xs.length - i ∧ i ≤ xs.length ∧ Pv i H, ⟨xs.length, by simp, Nat.zero_le _, h0⟩, ?_⟩
    rintro i m H ⟨rfl, hi, p⟩
    have q := (hl i H hi p).seq hx
    by_cases hlt : i < xs.length
    · refine .inr ⟨⟨xs, xs[i], q, by simp [hlt]⟩, Pv (i + 1), fun H' p' => ⟨xs.length - (i + 1), by omega, rfl, hlt, p'⟩, fun x H' y => ?_⟩
      obtain ⟨e, y⟩ := y
      subst e
      exact hs i x _ (y xs q) p
    · have e : i = xs.length := by omega
      subst e
      exact .inl ⟨⟨xs, q, Nat.le_refl _⟩, hd H p⟩
  · refine ⟨.inr ⟨⟨xs, hx⟩, ⟨fun D hD => ?_⟩⟩⟩
    obtain ⟨Pv, h0, hl, hs, hd⟩ := h D hD
    refine ⟨fun i m H => m = xs.length - i ∧ i ≤ xs.length ∧ Pv i H, ⟨xs.length, by simp, Nat.zero_le _, h0⟩, ?_⟩
    rintro i m H ⟨rfl, hi, p⟩
    have q := Same.tup (hl i H hi p) hx
    by_cases hlt : i < xs.length
    · refine .inr ⟨⟨xs, xs[i], q, by simp [hlt]⟩, Pv (i + 1), fun H' p' => ⟨xs.length - (i + 1), by omega, rfl, hlt, p'⟩, fun x H' y => ?_⟩
      obtain ⟨e, y⟩ := y
      subst e
      exact hs i x _ (y xs q) p
    · have e : i = xs.length := by omega
      subst e
      exact .inl ⟨⟨xs, q, Nat.le_refl _⟩, hd H p⟩
/-! ### for k in d -/
def lkD (d : Addr) (od : Obj) (u : HO) (D : L2.Ends) : L2.Ends := ⟨fun σ' H' => H' d = some (.frz od u) ∧ D.nx σ' (upd H' d u), fun v H' => H' d = some (.frz od u) ∧ D.rt v (upd H' d u), fun σ' H' => H' d = some (.frz od u) ∧ D.bk σ' (upd H' d u), fun σ' H' => H' d = some (.frz od u) ∧ D.ct σ' (upd H' d u)⟩
structure LockK (H : Hp) (d : Addr) (D : L2.Ends) (g : TG) (tb : TS) (σ : L2.St) : Prop where
  ex : ∃ kvs : List (Key × V), H d = some (.dK kvs) ∧ ∀ od, LoopR (lkD d od (.dK kvs) D) g tb σ (Itk d od kvs) (upd H d (.frz od (.dK kvs)))
def dForK (i : Nat) (g : TG) (tb : TS) : TS := fun D σ H => onSome (nth σ i) fun v => match v with
  | .ref d => LockK H d D g tb σ
  | _ => False
theorem ps_forK {X : Cx} {i : Nat} {x : Str} {tg : Expr} {body : List Stmt} {g : TG} {tb : TS} {p pos : Pos} (hp : PassesOwn (model X.prog X.w) X.A X.env X.xe) (hc : X.calm = true) (hg : PG X tg g) (hb : PSs X body tb) (hN : X.N[i]? = some x := by rfl) (hv : Vis X.env.scope x := by first | exact Or.inl rfl | exact Or.inr (Or.inl rfl) | exact Or.inr (Or.inr rfl))
    (hd : (x == ("__debug__" : Str)) = false := by decide) (hcd : (x == ("__classdict__" : Str)) = false := by decide) (hs : ∀ y, foldedSetIterable (.Name x p) X.env y = pure y := by intro _; rfl) : PS X (.For tg (.Name x p) body [] pos) (dForK i g tb) := by
  have h := ps_lock (ps_for (pos := pos) hp hc (pi_keys (tg := tg) (pv (pos := p) i hN hv hd hcd)) hg hb hs)
  refine PS.of h fun D σ H q => ?_
  unfold dForK onSome at q
  cases e : nth σ i with
  | none => rw [e] at q; exact q.elim
  | some v =>
    rw [e] at q
    cases v <;> try exact q.elim
    rename_i d
    obtain ⟨kvs, hk, q⟩ := q.ex
    refine ⟨d, .dK kvs, hk, trivial, fun od => ?_⟩
    show iKeys (dVar i) σ _ _
    unfold iKeys dVar onSome
    rw [e]
    exact ⟨d, od, rfl, .inl ⟨kvs, upd_same, q od⟩⟩
theorem for_keys {d : Addr} {kvs : List (Key × V)} {g : TG} {tb : TS} {D : L2.Ends} {σ : L2.St} {H : Hp} (hk : H d = some (.dK kvs)) (Pv : Nat → L2.St → Hp → Prop) (h0 : ∀ od, Pv 0 σ (upd H d (.frz od (.dK kvs))))
    (hs : ∀ od i k v σ H', kvs[i]? = some (k, v) → H' d = some (.frz od (.dK kvs)) → Pv i σ H' → g (kV k) σ H' fun σ2 H2 => tb { lkD d od (.dK kvs) D with nx := fun σ H'' => H'' d = some (.frz od (.dK kvs)) ∧ Pv (i + 1) σ H'', ct := fun σ H'' => H'' d = some (.frz od (.dK kvs)) ∧ Pv (i + 1) σ H'', bk := (lkD d od (.dK kvs) D).nx } σ2 H2)
    (hd : ∀ od σ H', H' d = some (.frz od (.dK kvs)) → Pv kvs.length σ H' → D.nx σ (upd H' d (.dK kvs))) : LockK H d D g tb σ := by
  refine ⟨kvs, hk, fun od => ?_⟩
  refine ⟨fun i m σ H' => m = kvs.length - i ∧ i ≤ kvs.length ∧ H' d = some (.frz od (.dK kvs)) ∧ Pv i σ H', ⟨kvs.length, by simp, Nat.zero_le _, upd_same, h0 od⟩, ?_⟩
  rintro i m σ H' ⟨rfl, hi, hl, p⟩
  by_cases hlt : i < kvs.length
  · refine .inr ⟨⟨hl, hlt⟩, fun σ H'' => H'' d = some (.frz od (.dK kvs)) ∧ Pv (i + 1) σ H'', fun σ' H'' p' => ⟨kvs.length - (i + 1), by omega, rfl, hlt, p'⟩, fun x H'' y => ?_⟩
    obtain ⟨e, k, v, hkv, ex⟩ := y
    subst e ex
    exact hs od i k v σ _ hkv hl p
  · have e : i = kvs.length := by omega
    subst e
    exact .inl ⟨⟨hl, Nat.le_refl _⟩, hl, hd od σ H' hl p⟩
end S
namespace S
open PySem PySem.Spec PyProof.Rows L2
def uOwnN (K : Frag) (c : Str) (sp : Sp) (E : XK) : V → Hp → VK → Prop := fun x H Q => match x with
  | .int i => Q (.int (-i)) H
  | .ref a => uOwn K c sp E (.ref a) H Q
  | _ => False
section
variable {X : Cx} {c : Str} {g : Addr} {k : Nat} {sp : Sp} {E : XK}
theorem u_negN (hm : Meth X.K (He.ga X.K c) "__neg__" g) (F : FnR X.prog X.w X.K X.mg X.base (L2.CX X.prog X.w) k g sp) (hr : Room k X.A) (hx : ∀ σ, PassesAt (L2.CX X.prog X.w) X σ E) : UnR X (unaryOp .USub) (uOwnN X.K c sp E) := by
  intro pins s σ H x v Q I rx q
  cases x <;> try exact q.elim
  · exact u_neg pins s σ H _ v Q I rx q
  · exact u_negO hm F hr hx pins s σ H _ v Q I rx q
end
end S
namespace S
open PySem PySem.Spec PyProof.Rows L2
/-- what the written part says of such a def fI of the class c: g the def above -/
structure SupF (P : Program) (K : Frag) (c : Str) (g : Addr) (nm qual : Str) (params : Arguments) (body : List Stmt) (scope : Scope) (fI : Addr) : Prop where
  fn : ∃ oc od osl kV doc pm an cda ct cc, K.lookup fI = some ⟨oc, od, .func (PySem.W.ksFn nm qual params body scope .none kV doc pm an (.ref cda) ct cc), osl⟩ ∧ PySem.W.codeIn K (.ref cda) qual = true ∧
    (∃ cl cld csl, K.lookup cc = some ⟨cl, cld, .cell (some (.ref (He.ga K c))), csl⟩) ∧ ∃ ccl cdd vs ccs file tf, K.lookup cda = some ⟨ccl, cdd, .fields vs, ccs⟩ ∧ vs[2]? = some (.str file tf) ∧ ((P.main.file : Str) == file) = true
  sub : PySem.W.mroIn K (He.ga K c) (.ref (He.ga K c)) = some true
  sup : PySem.W.ks_superIn K (He.ga K c) (He.ga K c) "__init__" = some (some (.ref g))
  tg : PySem.W.typeIn K (.ref g) = some (.type "function")
  fg : PySem.W.fnIn K g = true
  st : PySem.W.nsIn K cStatics "thirdparty.any" = some none
  top : (P.main.scope.names.lookup ("super" : Str)).isSome = false
structure InsC (K : Frag) (H : Hp) (c : Str) (a : Addr) (q : Prop) : Prop where
  ex : ∃ dx fs, H a = some (.ins (He.ga K c) dx fs)
  q : q
theorem InsC.of {K : Frag} {H : Hp} {c : Str} {a dx : Addr} {fs : List (Str × V)} {q : Prop} (h : H a = some (.ins (He.ga K c) dx fs)) (h2 : q) : InsC K H c a q := ⟨⟨dx, fs, h⟩, h2⟩
/-- super().__init__(..), self being the first name -/
def dSup (K : Frag) (c : Str) (sp : Sp) (E : L2.St → XK) (ta : TA) : TS := fun D σ H => onSome (nth σ 0) fun v => match v with
  | .ref a => InsC K H c a (ta σ H fun ws H2 => sp (.ref a :: ws) H2 (fun _ H3 => D.nx σ H3) (E σ))
  | _ => False
/-- the context of such a def's body -/
abbrev cxS (P : Program) (w : World) (K : Frag) (mg : Str → Option Value) (base : Heap) (N : List Str) (F : NdefX.NF) (f : Addr) (A : Around) (outer : List Env) (s : Shared) (H : Hp) (E : XK) : Cx := NdefX.ncx (L2.CX P w) P w K mg base N F f A outer s H E
theorem passS {P : Program} {w : World} {K : Frag} {mg : Str → Option Value} {base : Heap} {N : List Str} {F : NdefX.NF} {f : Addr} {A : Around} {outer : List Env} {s : Shared} {H : Hp} {E : XK} :
    ∀ σ, PassesAt (L2.CX P w) (cxS P w K mg base N F f A outer s H E) σ (EW E σ) := fun σ => passAt (takes_of rfl rfl rfl rfl) σ
theorem ownS {P : Program} {w : World} {K : Frag} {mg : Str → Option Value} {base : Heap} {N : List Str} {F : NdefX.NF} {f : Addr} {A : Around} {outer : List Env} {s : Shared} {H : Hp} {E : XK} :
    PassesOwn (model P w) (cxS P w K mg base N F f A outer s H E).A (cxS P w K mg base N F f A outer s H E).env (cxS P w K mg base N F f A outer s H E).xe := passes_of rfl
theorem startS {N ps : List Str} {vs : List V} (hl : vs.length = ps.length) (hN : ps.length + 1 ≤ N.length) : NdefX.startF N vs [none] = L2.start N vs := by
  unfold NdefX.startF L2.start
  congr 1
  obtain ⟨m, hm⟩ : ∃ m, N.length - vs.length = m + 1 := ⟨N.length - vs.length - 1, by omega⟩
  rw [hm]
  rfl
section
variable {P : Program} {w : World} {K : Frag} {mg : Str → Option Value} {base : Heap} {c nm qual : Str} {params : Arguments} {body rest : List Stmt} {scope : Scope} {fI g : Addr} {p0 p1 p2 p4 p5 : Pos} {e : Expr} {es : List Expr} {N ps : List Str} {self0 : Str} {k : Nat} {sp sp0 : Sp} {ta : XK → TA} {tr : XK → TS} {pl : Env → Sem Bool}
theorem mk_fnS (D : SupF P K c g nm qual params body scope fI) (hms : mg "super" = none) (S : NdefX.NScope N ps ["__class__"] scope) (len : ∀ vs H Q E, sp vs H Q E → vs.length = ps.length)
    (hbind : ∀ (kV doc pm : Value) (an : Option Addr) (cdv ct : Value) (cc : Addr) (us : List Value), us.length = ps.length → bindArgs (PySem.W.ksFn nm qual params body scope .none kV doc pm an cdv ct cc) ⟨us, []⟩ = pure (ps.zip us))
    (FG : FR P w K mg base k g sp0) (hbody : body = .Expr (.Call (.Attribute (.Call (.Name "super" p0) [] [] p1) "__init__" p2) (e :: es) [] p4) p5 :: rest)
    (hp : ∃ ar, (params.posonlyargs ++ params.args).head? = some ar ∧ ar.arg = self0) (hps : ps.head? = some self0) (hks : scope.names.lookup ("super" : Str) = some .globalImplicit)
    (hsw2 : ∀ env, swapsWith (.Call (.Attribute (.Call (.Name "super" p0) [] [] p1) "__init__" p2) (e :: es) [] p4) none p5.line env = pure false)
    (hev : ∀ env, eval (.Call (.Attribute (.Call (.Name "super" p0) [] [] p1) "__init__" p2) (e :: es) [] p4) env = (do
      let ov ← attributeBase (.Call (.Name "super" p0) [] [] p1) "__init__" env (eval (.Call (.Name "super" p0) [] [] p1) env)
      standAt p2.atName
      let (f, first) ← holding [ov] (getMethod ov "__init__" (pl env))
      callWith p4 f first (backTo p4 (starEach (e :: es) env)) []))
    (hst : ∀ env, starEach (e :: es) env = (false, eval e env) :: starEach es env) (hpl : ∀ env, (backTo p4 (starEach es env)).any (·.1) = false)
    (hb : ∀ (cda cc : Addr) (A : Around) (outer : List Env) (s : Shared) (H : Hp) (E : XK), Room k (A.deeper (NdefX.envF ⟨nm, qual, params, body, scope, [("__class__", cc)], cda⟩ fI s.heap.objs.size)) →
      PA (cxS P w K mg base N ⟨nm, qual, params, body, scope, [("__class__", cc)], cda⟩ fI A outer s H E) (e :: es) (ta E) ∧ PSs (cxS P w K mg base N ⟨nm, qual, params, body, scope, [("__class__", cc)], cda⟩ fI A outer s H E) rest (tr E))
    (pure : ∀ vs H Q E, sp vs H Q E → tSeq (dSup K c sp0 (EW E) (ta E)) (tr E) { nx := fun _ H' => Q .non H', rt := Q } (start N vs) H) : FR P w K mg base (k + 1) fI sp := by
  intro A outer s H us vs Q E hr e0 r hsp
  have hl := len _ _ _ _ hsp
  obtain ⟨oc, od, osl, kV, doc, pm, an, cda, ct, cc, lk, hcd, ⟨cl, cld, csl, lc⟩, ccl, cdd, fvs, ccs, file, tf, lcd, hvs, hfile⟩ := D.fn
  have KX : K.In s.heap := e0.mod.kin.keeps fun b o e => (e0.bs b o e).1
  have lim : s.heap.NoLimit := e0.mod.nolimit.keeps fun b o e => (e0.bs b o e).1
  have hq := pure vs H Q E hsp
  have hNl : ps.length + 1 ≤ N.length := by
    have q := congrArg List.length S.pre
    rw [List.length_take, List.length_append] at q
    simp at q
    omega
  have hcc0 : H cc = none := (e0.bs _ _ (e0.mod.kin _ _ lc)).2
  have hC : NdefX.CellsAt [("__class__", cc)] ["__class__"] [none] s.heap H := by
    refine ⟨rfl, fun y c' hy => ?_, fun x y c' h1 h2 => ?_, fun i y hi => ?_⟩
    · have := PySem.mem_of_lookup hy
      have : (y, c') = (("__class__" : Str), cc) := by simpa using this
      cases this
      exact ⟨hcc0, _, _, KX _ _ lc, rfl⟩
    · have e1 : (x, c') = (("__class__" : Str), cc) := by simpa using PySem.mem_of_lookup h1
      have e2 : (y, c') = (("__class__" : Str), cc) := by simpa using PySem.mem_of_lookup h2
      cases e1
      cases e2
      rfl
    · cases i with
      | zero =>
        cases hi
        exact ⟨cc, rfl, fun v z => by cases z⟩
      | succ i => simp at hi
  obtain ⟨ar, har, har2⟩ := hp
  obtain ⟨mb, hmb, hbt⟩ := e0.mod.blt
  have hul : us.length = ps.length := by rw [← r.length]; exact hl
  have hself : scope.names.lookup self0 = some .local := S.par _ (by cases ps with | nil => cases hps | cons a b => cases hps; exact List.mem_cons_self ..)
  have hkc : scope.names.lookup ("__class__" : Str) = some .free := S.frk _ (List.mem_cons_self ..)
  subst hbody
  refine PySem.ks_codeAny_call_defAt (binds := ps.zip us) hr.depth (KX _ _ lk) rfl lim (PySem.W.codeRec_of KX hcd) rfl (BindsTo.of_eq (hbind _ _ _ _ _ _ _ _ hul)) S.nocell (fun y hy => S.par _ (List.of_mem_zip hy).1) (fun h₁ hns keep => ?_) S.co S.gen S.kind
  have I := NdefX.inv_startN (CX := L2.CX P w) (P := P) (w := w) (K := K) (mg := mg) (base := base) (f := fI) (E := E) (tk := s.toks + (ps.zip us).length) (F := ⟨nm, qual, params, .Expr (.Call (.Attribute (.Call (.Name "super" p0) [] [] p1) "__init__" p2) (e :: es) [] p4) p5 :: rest, scope, [("__class__", cc)], cda⟩) S hr.hd e0 hl r hC hns keep
  rw [startS hl hNl] at I
  obtain ⟨hpa, hrest⟩ := hb cda cc A outer s H E (hr.deeper _)
  have hX := hrest
  -- self
  obtain ⟨v0, vr, rfl⟩ : ∃ v0 vr, vs = v0 :: vr := by
    cases vs with
    | nil => cases ps with | nil => cases hps | cons a b => cases hl
    | cons v0 vr => exact ⟨v0, vr, rfl⟩
  cases v0 with
  | ref a =>
    have hq : InsC K H c a (ta E (L2.start N (.ref a :: vr)) H fun ws H2 => sp0 (.ref a :: ws) H2 (fun _ H3 => tr E { nx := fun _ H' => Q .non H', rt := Q } (L2.start N (.ref a :: vr)) H3) E) := hq
    obtain ⟨⟨dx, fs, ha⟩, hq⟩ := hq
    cases r with
    | @cons _ u0 _ ur ra rv =>
      obtain rfl : u0 = Value.ref a := ra
      have K1 : K.In h₁ := KX.keeps keep
      have g1 : h₁.Ns mainGlobals mg := e0.mod.glob.keeps fun b o e => keep b o (e0.bs b o e).1
      have b1 : h₁.Ns builtinsNs mb := hmb.keeps fun b o e => keep b o (e0.bs b o e).1
      have hlk : (ps.zip (Value.ref a :: ur)).reverse.lookup self0 = some (Value.ref a) := by
        have ndP : ps.Nodup := by
          have q := S.nd.sublist (List.take_sublist (ps.length + 1) N)
          have e : N.take (ps.length + 1) = ps ++ [("__class__" : Str)] := S.pre
          rw [e] at q
          exact (List.nodup_append.mp q).1
        exact NdefX.zip_look (i := 0) ndP (by cases ps with | nil => cases hps | cons a b => cases hps; rfl) rfl
      obtain ⟨mA, O, _, _, _, _⟩ := ins_get e0.hok ha
      obtain ⟨oda, J, _⟩ := O.look
      have ho := J.at_
      obtain ⟨oD, cdD, hC1, hcl2, hcl, hal⟩ : ∃ oD cdD, h₁.get? (He.ga K c) = some oD ∧ oD.data = .cls cdD ∧ PySem.W.clsIn K (He.ga K c) = some cdD ∧ PySem.W.alongIn K "__init__" ((cdD.mro.dropWhile (· != .ref (He.ga K c))).drop 1) = some (some (.ref g)) := by
        have hm := D.sup
        unfold PySem.W.ks_superIn at hm
        cases hc : PySem.W.clsIn K (He.ga K c) with
        | none => rw [hc] at hm; cases hm
        | some cd =>
          rw [hc] at hm
          have hc2 := hc
          unfold PySem.W.clsIn at hc2
          split at hc2
          · rename_i c' d' cd' sl' lo
            cases hc2
            exact ⟨_, _, K1 _ _ lo, rfl, rfl, hm⟩
          · cases hc2
      obtain ⟨og, hog, hogc⟩ : ∃ og, K.lookup g = some og ∧ og.cls = .type "function" := by
        have ht' : (K.lookup g).map (·.cls) = some (.type "function") := D.tg
        cases z : K.lookup g with
        | none => rw [z] at ht'; cases ht'
        | some og => rw [z] at ht'; exact ⟨og, rfl, Option.some.inj ht'⟩
      refine PySem.ks_wpAt_execs_cons (PySem.ks_wpAt_Expr_any (hi := by unfold interactive; show (scope.kind == _ && _) = false; rw [S.kind]; rfl) (hs := hsw2 _) (PySem.ks_wpAt_MethodCall (he := hev _) (PySem.ks_wpAt_super_base hks hkc (by decide) rfl (K1 _ _ lk) rfl har rfl (K1 _ _ lcd) rfl hvs hfile D.top ?_)))
      rw [har2]
      refine PySem.W.ks_loadName_global S.kind hks (Calls.loadGlobal_builtin g1 hms b1 ((hbt "super" (by decide)).trans (by decide +kernel : bootBuiltins ("super" : Str) = some (.type "super"))) ⟨rfl, ?_⟩)
      refine wpAny_loadName_free S.kind hkc rfl ⟨_, K1 _ _ lc, rfl⟩ ?_
      refine wpAny_loadName_local S.kind hself hns hlk ?_
      obtain ⟨sh, sg, sd, stk, sos⟩ := s
      refine PySem.ks_wpAny_isType_cls hC1 hcl2 ⟨rfl, ?_⟩
      refine PySem.ks_wpAny_call_super hC1 hcl2 (keep _ _ ho) rfl (fun c z => nomatch z) (PySem.W.looks_mroIn K1 D.sub) fun h2 hso kp2 => ?_
      have I2 := I.kept (t' := stk + (ps.zip (Value.ref a :: ur)).length) kp2
      have K2 : K.In h2 := K1.keeps kp2
      have J2 : PySem.W.InstAt h2 a _ (He.ga K c) (some oda) := ⟨kp2 _ _ (keep _ _ J.at_), J.cls, J.no, kp2 _ _ (keep _ _ J.dict)⟩
      refine PySem.ks_wpAny_getMethod_super hso (PySem.W.looks_opaque K2 D.st) (l₀ := cdD.mro) (fun A Q E s k q => wpAny_bind ((PySem.W.looks_clsIn K2 hcl) A _ E s k (wpAny_pure q))) rfl K2 hal (K2 _ _ hog) hogc (PySem.W.ks_ne K2 J2 hcl) (by decide) ?_
      have I3 := I2.kept (t' := stk + (ps.zip (Value.ref a :: ur)).length + 1) (h' := h2.push (PySem.W.methodObj (.ref g) (.ref a))) (fun b u e => Heap.get?_push_of_some _ e)
      have hbm : (h2.push (PySem.W.methodObj (.ref g) (.ref a))).get? h2.objs.size = some (PySem.W.methodObj (.ref g) (.ref a)) := Heap.get?_push_at rfl rfl
      have I4 := I3.pins_of (pins' := [(h2.objs.size, PySem.W.methodObj (.ref g) (.ref a))]) (fun p hp => by
        rw [List.mem_singleton.mp hp]
        refine ⟨hbm, I2.hok.fresh (Nat.le_refl _), fun z => ?_, I2.nofs (Nat.le_refl _), fun v z => by cases z⟩
        have := I2.lt
        exact absurd this (by rw [← z]; exact Nat.lt_irrefl _))
      rw [hst]
      refine PySem.W.callWith_of (P := PySem.W.MethP K h2.objs.size g (.ref a)) (by show ((false || (backTo p4 (starEach es _)).any (·.1)) || false) = false; rw [hpl]; rfl) (PySem.W.keeps_M D.fg) (Calls.evalArgs_plain ?_)
      have hrun := hpa.run p4 _ _ _ _ _ I4 hq
      rw [hst] at hrun
      refine thn hrun fun us2 s2 ⟨ws, H2, I5, r2, q2⟩ => ⟨⟨(I5.pin _ (List.mem_append_right _ (List.mem_cons_self ..))).1, I5.kIn⟩, ?_⟩
      refine wpAny_call (PySem.ks_codeAny_call_bound (I5.pin _ (List.mem_append_right _ (List.mem_cons_self ..))).1 (codeAny_mono (FG _ _ _ _ _ _ _ (hr.deeper _) I5.env0 (vs := V.ref a :: ws) (.cons (show L2.RelV (V.ref a) (Value.ref a) from rfl) r2) q2) fun rr s3 hr3 => ?_))
      cases rr with
      | error er => exact passS (L2.start N (.ref a :: vr)) _ _ _ _ _ I5 hr3
      | ok fl =>
        cases fl with
        | ret u =>
          obtain ⟨v3, H3, I6, _, q3⟩ := I5.after hr3
          have I7 := I6.pins_of (pins' := []) (fun p hp => absurd hp (by simp))
          show _root_.PySem.wpAt _ _ _ (execs rest _) _ _ _
          refine wpAt_of_wpAny (wpAny_mono (hrest.run [] s3 _ _ _ I7 q3) (fun fl s4 hs => ?_) fun e s4 hs => hs)
          have fin : ∀ {F : NdefX.NF} {s0 : Shared} {σ' : L2.St} {H' : Hp} {v : V} {u : Value}, Inv (cxS P w K mg base N F fI A outer s0 H E) [] σ' H' s4 → RelV v u → Q v H' → CE outer P w H s0 Q u s4 :=
            fun {F s0 σ' H' v u} J rv q => ⟨v, H', J.os, J.bare, J.base, J.hok, rv, q⟩
          cases fl with
          | ret u =>
            obtain ⟨v, σ', H', J, rv, q⟩ := hs
            exact fin J rv q
          | next =>
            obtain ⟨σ', H', J, q⟩ := hs
            exact fin (v := V.non) (u := Value.none) J rfl q
          | brk =>
            obtain ⟨_, _, _, q⟩ := hs
            exact False.elim q
          | cont =>
            obtain ⟨_, _, _, q⟩ := hs
            exact False.elim q
        | next => exact False.elim hr3
        | brk => exact False.elim hr3
        | cont => exact False.elim hr3
  | _ => exact (show False from hq).elim
end
/-! ### such a def in the head -/
def supB (P : Program) (c up : Str) (K : Frag) : Bool := fnB P K (He.ga K c) (He.fAd K (c, some "__init__")) && (decide (PySem.W.mroIn K (He.ga K c) (.ref (He.ga K c)) = some true) && (He.eqO (PySem.W.ks_superIn K (He.ga K c) (He.ga K c) "__init__") (some (some (.ref (He.fAd K (up, some "__init__"))))) &&
    (decide (PySem.W.typeIn K (.ref (He.fAd K (up, some "__init__"))) = some (.type "function")) && (PySem.W.fnIn K (He.fAd K (up, some "__init__")) && (decide (PySem.W.nsIn K cStatics "thirdparty.any" = some none) && !(P.main.scope.names.lookup ("super" : Str)).isSome)))))
theorem sup_of {P : Program} {K : Frag} {c up nm qual : Str} {params : Arguments} {body : List Stmt} {scope : Scope} (e : fnX K (He.fAd K (c, some "__init__")) = some (nm, qual, params, .stmts body, scope, mainGlobals, [(("__class__" : Str), (0 : Addr))], builtinsNs)) (h : supB P c up K = true) :
    SupF P K c (He.fAd K (up, some "__init__")) nm qual params body scope (He.fAd K (c, some "__init__")) := by
  obtain ⟨h1, h⟩ := He.ba h
  obtain ⟨h2, h⟩ := He.ba h
  obtain ⟨h3, h⟩ := He.ba h
  obtain ⟨h4, h⟩ := He.ba h
  obtain ⟨h5, h⟩ := He.ba h
  obtain ⟨h6, h7⟩ := He.ba h
  unfold fnX at e
  unfold fnB at h1
  cases lk : K.lookup (He.fAd K (c, some "__init__")) with
  | none => rw [lk] at e; cases e
  | some o =>
    rw [lk] at e h1
    obtain ⟨oc, od, dat, osl⟩ := o
    cases dat <;> try cases e
    rename_i fd
    obtain ⟨k1, k0⟩ := He.ba h1
    obtain ⟨kd, k2⟩ := He.ba k0
    obtain ⟨n1, n2, n3, n4, n5, n6, n7, n8, n9, n10, n11, n12, n13, n14, n15⟩ := fd
    simp only [Option.some.injEq, Prod.mk.injEq] at e
    obtain ⟨e1, e2, e3, e4, e5, e6, e7, e8⟩ := e
    subst e1 e2 e3 e4 e5 e6 e8
    dsimp only at k1 k2 kd
    have hdn : n8 = Value.none := by
      rcases He.dflB_ok kd with ⟨_, z⟩ | ⟨z, _⟩
      · exact z
      · exact absurd rfl z
    subst hdn
    obtain ⟨cda, nmc, cc, ec, eclo, h3', h4'⟩ := cloB_ok k2
    subst ec eclo
    have enm : nmc = "__class__" := by simpa using e7
    subst enm
    exact ⟨⟨oc, od, osl, _, _, _, _, cda, _, cc, lk, k1, cellTo_ok h3', codeFile_ok h4'⟩, of_decide_eq_true h2, He.eqO_ok h3, of_decide_eq_true h4, h5, of_decide_eq_true h6, by simpa using h7⟩
end S
namespace S
open PySem PySem.Spec PyProof.Rows L2
/-- each class of cs has the method m with its promise -/
def DynF (P : Program) (w : World) (K : Frag) (mg : Str → Option Value) (base : Heap) (k : Nat) (cs : List Str) (m : Str) (sp : Str → Sp) : Prop := ∀ c ∈ cs, Cls K (He.ga K c) ∧ ∃ g, Meth K (He.ga K c) m g ∧ FR P w K mg base k g (sp c)
structure DynM (K : Frag) (H : Hp) (cs : List Str) (m : Str) (a : Addr) (q : Str → Prop) : Prop where
  ex : ∃ c ∈ cs, ∃ dx fs, H a = some (.ins (He.ga K c) dx fs) ∧ fs.lookup m = none ∧ q c
theorem DynM.of {K : Frag} {H : Hp} {cs : List Str} {m c : Str} {a dx : Addr} {fs : List (Str × V)} {q : Str → Prop} (hc : c ∈ cs) (h : H a = some (.ins (He.ga K c) dx fs)) (h2 : q c) (l : fs.lookup m = none := by rfl) : DynM K H cs m a q := ⟨⟨c, hc, dx, fs, h, l, h2⟩⟩
def dDyn (K : Frag) (cs : List Str) (m : Str) (sp : Str → Sp) (E : L2.St → XK) (ta : TE) (t : TA) : TE := fun σ H Q => ta σ H fun x H1 => match x with
  | .ref a => DynM K H1 cs m a fun c => t σ H1 fun ws H2 => sp c (.ref a :: ws) H2 Q (E σ)
  | _ => False
def dDyn0 (K : Frag) (cs : List Str) (m : Str) (sp : Str → Sp) (E : L2.St → XK) (ta : TE) : TE := fun σ H Q => ta σ H fun x H1 => match x with
  | .ref a => DynM K H1 cs m a fun c => sp c [.ref a] H1 Q (E σ)
  | _ => False
section
variable {X : Cx} {k : Nat} {cs : List Str} {sp : Str → Sp} {E : L2.St → XK} {x m : Str} {p pos apos : Pos} {e o : Expr} {es : List Expr} {t : TA} {ta : TE}
theorem pe_dyn {pl : Sem Bool} (D : DynF X.prog X.w X.K X.mg X.base k cs m sp) (hr : Room k X.A) (hx : ∀ σ, PassesAt (L2.CX X.prog X.w) X σ (E σ)) (he : PE X o ta) (ha : PA X (e :: es) t)
    (hst : starEach (e :: es) X.env = (false, eval e X.env) :: starEach es X.env := by rfl) (hpl : (backTo pos (starEach es X.env)).any (·.1) = false := by rfl)
    (ht : eval (.Call (.Attribute o m apos) (e :: es) [] pos) X.env = (do
      let ov ← eval o X.env
      standAt apos.atName
      let (f, first) ← holding [ov] (getMethod ov m pl)
      callWith pos f first (backTo pos (starEach (e :: es) X.env)) (backToKw pos (keywordEach [] X.env))) := by rfl) :
    PE X (.Call (.Attribute o m apos) (e :: es) [] pos) (dDyn X.K cs m sp E ta t) := by
  refine ⟨fun pins s σ H Q I h => ?_⟩
  refine PySem.W.methodCall_KW (pl := pl) (thn (he.run pins s σ H _ I h) fun u s1 ⟨x, H1, I1, rx, q⟩ => ?_) ht
  cases x <;> try exact q.elim
  cases rx
  obtain ⟨⟨c, hc, dx, fs, ea, l, q⟩⟩ := q
  obtain ⟨hcl, g, hm, F⟩ := D c hc
  refine getmeth_ok I1 ea hcl hm l ?_
  refine PySem.W.callWith_K (first := [.ref _]) (h₀ := X.base) I.ok.mod.kin hm.kp (thn (ha.run pos pins s1 σ H1 _ I1 q) fun us s2 ⟨ws, H2, I2, r, q2⟩ => ⟨I2.kIn, ?_⟩) hst hpl
  exact run_R (sp := sp c) F hr (hx σ) I2 (.cons (show L2.RelV (V.ref _) (Value.ref _) from rfl) r) q2
theorem pe_dyn0 {pl : Sem Bool} (D : DynF X.prog X.w X.K X.mg X.base k cs m sp) (hr : Room k X.A) (hx : ∀ σ, PassesAt (L2.CX X.prog X.w) X σ (E σ)) (he : PE X o ta)
    (ht : eval (.Call (.Attribute o m apos) [] [] pos) X.env = (do
      let ov ← eval o X.env
      standAt apos.atName
      let (f, first) ← holding [ov] (getMethod ov m pl)
      callWith pos f first (backTo pos (starEach [] X.env)) (backToKw pos (keywordEach [] X.env))) := by rfl) :
    PE X (.Call (.Attribute o m apos) [] [] pos) (dDyn0 X.K cs m sp E ta) := by
  refine ⟨fun pins s σ H Q I h => ?_⟩
  refine PySem.W.methodCall_KW (pl := pl) (thn (he.run pins s σ H _ I h) fun u s1 ⟨x, H1, I1, rx, q⟩ => ?_) ht
  cases x <;> try exact q.elim
  cases rx
  obtain ⟨⟨c, hc, dx, fs, ea, l, q⟩⟩ := q
  obtain ⟨hcl, g, hm, F⟩ := D c hc
  refine getmeth_ok I1 ea hcl hm l ?_
  refine PySem.W.callWith_K0 (first := [.ref _]) I1.kIn hm.kp ?_
  exact run_R (sp := sp c) F hr (hx σ) I1 (.cons (show L2.RelV (V.ref _) (Value.ref _) from rfl) .nil) q
end
theorem FR.none {P : Program} {w : World} {K : Frag} {mg : Str → Option Value} {base : Heap} {k : Nat} {f : Addr} {sp : Sp} (h : ∀ vs H Q E, ¬ sp vs H Q E) : FR P w K mg base k f sp := fun _ _ _ _ _ _ _ _ _ _ _ hs => (h _ _ _ _ hs).elim
end S
namespace S
open PySem PySem.Spec PyProof.Rows L2
section
open PySem.W
variable {prog : Program} {w : World} {A : Around} {E : Value → Shared → Prop} {s : Shared} {K : Frag} {x y C C2 L f f2 : Addr} {h₀ : Heap} {m : Str → Option Value} {ox oy : Obj} {od oe : Option Obj}
/-- a op b, instances of two classes that both have the method, neither the reflected one -/
theorem binop_two {op : Operator} {Q : Value → Shared → Prop} (F : Fr h₀ L s.heap m) (X₀ : K.In h₀) (I : InstAt s.heap x ox C od) (I2 : InstAt s.heap y oy C2 oe) (hne : C ≠ C2) (hc : selfFirst K C = true) (hc2 : selfFirst K C2 = true)
    (hs : findIn K (.ref C) (PySem.dunder op.info.2) = some (some (.ref f))) (hf : isFn K (.ref f) = true) (hs2 : findIn K (.ref C2) (PySem.dunder op.info.2) = some (some (.ref f2))) (hr : findIn K (.ref C) (dunderR op.info.2) = some none) (hr2 : findIn K (.ref C2) (dunderR op.info.2) = some none)
    (hsub : subIn K (.ref C2) (.ref C) = some false)
    (h : wpAny (model prog w) A (call (.ref f) [.ref x, .ref y]) (PySem.W.CmpBack Q) E s) : wpAny (model prog w) A (binaryOp op (.ref x) (.ref y)) Q E s := by
  have X := X₀.keeps F.keep
  obtain ⟨cd, rest, hcd, hm⟩ := ksp_first hc
  obtain ⟨cd2, rest2, hcd2, hm2⟩ := ksp_first hc2
  rcases hi : op.info with ⟨sym, nm'⟩
  rw [hi] at hs hs2 hr hr2
  dsimp only at hs hs2 hr hr2
  have one := ksp_try X I hs hf h
  obtain ⟨hh, g, d, tt, os⟩ := s
  have L1 : Looks (model prog w) hh (typeOf (.ref x)) (.ref C) := I.type
  have L2 : Looks (model prog w) hh (typeOf (.ref y)) (.ref C2) := I2.type
  have L3 : Looks (model prog w) hh (fillsNumberSlot (.ref C) nm') true := fills_K X hcd hm hs
  have L4 : Looks (model prog w) hh (fillsNumberSlot (.ref C2) nm') true := fills_K X hcd2 hm2 hs2
  have L5 : Looks (model prog w) hh (isSubtype (.ref C2) (.ref C)) false := looks_subIn X hsub
  have L6 : Looks (model prog w) hh (numberSlotInPython (.ref C) nm') true := ksp_inPy X hs hr (.inl rfl)
  have L7 : Looks (model prog w) hh (numberSlotInPython (.ref C2) nm') true := ksp_inPy X hs2 hr2 (.inl rfl)
  have hne' : (Value.ref C == Value.ref C2) = false := Bool.eq_false_iff.mpr fun q => hne (by cases beq_iff_eq.mp q; rfl)
  simp only [binaryOp, hi]
  refine wpAny_holding (wpAny_bind ?_)
  unfold binaryOp1
  refine wpAny_bind (L1.at (wpAny_bind (L2.at (wpAny_bind (L3.at ?_)))))
  simp only [hne', Bool.false_eq_true, if_false]
  ksp_lk
  refine wpAny_mono one (fun r s' hr' => ?_) fun _ _ e => e
  obtain ⟨v, rfl, hq⟩ := hr'
  ksp_lk
  exact hq
end
/-- each of cs is first in its own line, has no reflected method, and none lies above another -/
def nfB (cs : List Str) (nm : String) (K : Frag) : Bool := cs.all fun c => PySem.W.selfFirst K (He.ga K c) && (He.eqO (PySem.W.findIn K (.ref (He.ga K c)) (dunderR nm)) (some none) && cs.all fun d => decide (He.ga K c = He.ga K d) || decide (PySem.W.subIn K (.ref (He.ga K d)) (.ref (He.ga K c)) = some false))
structure NfF (K : Frag) (cs : List Str) (nm : String) : Prop where
  ex : ∀ c ∈ cs, PySem.W.selfFirst K (He.ga K c) = true ∧ PySem.W.findIn K (.ref (He.ga K c)) (dunderR nm) = some none ∧ ∀ d ∈ cs, He.ga K c = He.ga K d ∨ PySem.W.subIn K (.ref (He.ga K d)) (.ref (He.ga K c)) = some false
theorem nfB_ok {K : Frag} {cs : List Str} {nm : String} (h : nfB cs nm K = true) : NfF K cs nm := ⟨fun c hc => by
  obtain ⟨h1, h⟩ := He.ba (List.all_eq_true.mp h c hc)
  obtain ⟨h2, h3⟩ := He.ba h
  refine ⟨h1, He.eqO_ok h2, fun d hd => ?_⟩
  rcases Bool.or_eq_true_iff.mp (List.all_eq_true.mp h3 d hd) with h | h
  · exact .inl (of_decide_eq_true h)
  · exact .inr (of_decide_eq_true h)⟩
structure InsM (K : Frag) (H : Hp) (cs : List Str) (a : Addr) (q : Prop) : Prop where
  ex : ∃ c ∈ cs, ∃ dx fs, H a = some (.ins (He.ga K c) dx fs)
  q : q
theorem InsM.of {K : Frag} {H : Hp} {cs : List Str} {c : Str} {a dx : Addr} {fs : List (Str × V)} {q : Prop} (hc : c ∈ cs) (h : H a = some (.ins (He.ga K c) dx fs)) (h2 : q) : InsM K H cs a q := ⟨⟨c, hc, dx, fs, h⟩, h2⟩
def oDynB (K : Frag) (cs : List Str) (m : Str) (sp : Str → Sp) (E : XK) (r : R2) : R2 := fun x y H Q => match x, y with
  | .ref a, .ref b => DynM K H cs m a fun c => InsM K H cs b (sp c [.ref a, .ref b] H Q E)
  | x, y => r x y H Q
def uDyn (K : Frag) (cs : List Str) (m : Str) (sp : Str → Sp) (E : XK) : V → Hp → VK → Prop := fun x H Q => match x with
  | .ref a => DynM K H cs m a fun c => sp c [.ref a] H Q E
  | _ => False
section
variable {X : Cx} {k : Nat} {cs : List Str} {sp : Str → Sp} {E : XK} {m : Str}
theorem op_dynB {op : Operator} {r : R2} (nf : NfF X.K cs op.info.2) (D : DynF X.prog X.w X.K X.mg X.base k cs (PySem.dunder op.info.2) sp) (hr : Room k X.A) (hx : ∀ σ, PassesAt (L2.CX X.prog X.w) X σ E) (h0 : OpR X (binaryOp op) r) : OpR X (binaryOp op) (oDynB X.K cs (PySem.dunder op.info.2) sp E r) := by
  intro pins s σ H x y v u Q I rx ry q
  have own : ∀ a b, x = .ref a → y = .ref b → (DynM X.K H cs (PySem.dunder op.info.2) a fun c => InsM X.K H cs b (sp c [.ref a, .ref b] H Q E)) → wpAny (model X.prog X.w) X.A (binaryOp op v u) (EP X pins σ Q) X.xe s := by
    intro a b ex ey q
    subst ex ey
    cases rx
    cases ry
    obtain ⟨⟨c, hc, dx, fs, ha, _, ⟨⟨d, hd, dy, gs, hb⟩, q⟩⟩⟩ := q
    obtain ⟨hcl, g, hm, F⟩ := D c hc
    obtain ⟨mA, O, _, _, _, _⟩ := ins_get I.hok ha
    obtain ⟨od, J, _⟩ := O.look
    obtain ⟨mB, O', _, _, _, _⟩ := ins_get I.hok hb
    obtain ⟨od', J', _⟩ := O'.look
    obtain ⟨m, hF⟩ := I.fr
    obtain ⟨nf1, nf2, nf3⟩ := nf.ex c hc
    obtain ⟨nd1, nd2, _⟩ := nf.ex d hd
    obtain ⟨_, g2, hm2, _⟩ := D d hd
    have run : wpAny (model X.prog X.w) X.A (call (.ref g) [.ref a, .ref b]) (PySem.W.CmpBack (EP X pins σ Q)) X.xe s := by
      refine wpAny_mono (run_op (us := [.ref a, .ref b]) (vs := [.ref a, .ref b]) F hr I.env0 hx I (.cons rfl (.cons rfl .nil)) q) (fun w s' z => ?_) fun _ _ x => x
      obtain ⟨z', H', I', rz, qz⟩ := z
      exact SlX.cmpback rz ⟨z', H', I', rz, qz⟩
    by_cases e : He.ga X.K c = He.ga X.K d
    · rw [← e] at J'
      exact PySem.W.binop_K hF I.ok.mod.kin J J'.type nf1 hm.at_ hm.fn run
    · exact binop_two hF I.ok.mod.kin J J' e nf1 nd1 hm.at_ hm.fn hm2.at_ nf2 nd2 ((nf3 d hd).resolve_left e) run
  cases x <;> cases y <;> first | exact own _ _ rfl rfl q | exact h0 pins s σ H _ _ v u Q I rx ry q
theorem u_invDyn (D : DynF X.prog X.w X.K X.mg X.base k cs "__invert__" sp) (hr : Room k X.A) (hx : ∀ σ, PassesAt (L2.CX X.prog X.w) X σ E) : UnR X (unaryOp .Invert) (uDyn X.K cs "__invert__" sp E) := by
  intro pins s σ H x v Q I rx q
  cases x <;> try exact q.elim
  cases rx
  obtain ⟨⟨c, hc, dx, fs, ha, _, q⟩⟩ := q
  obtain ⟨hcl, g, hm, F⟩ := D c hc
  obtain ⟨mA, O, _, _, _, _⟩ := ins_get I.hok ha
  obtain ⟨od, J, _⟩ := O.look
  obtain ⟨m, hF⟩ := I.fr
  exact PySem.W.ksp_inv hF I.ok.mod.kin J hm.at_ hm.fn (run_op (us := [.ref _]) (vs := [.ref _]) F hr I.env0 hx I (.cons rfl .nil) q)
end
end S
namespace S
open PySem PySem.Spec PyProof.Rows L2
structure IsT (x y : V) (k : Bool → Prop) : Prop where
  ex : (∃ a b, x = .bl a ∧ y = .bl b ∧ k (decide (a = b))) ∨ (x = .non ∧ (∃ b, y = .bl b) ∧ k false)
theorem IsT.bl {a b : Bool} {k : Bool → Prop} (q : k (decide (a = b))) : IsT (.bl a) (.bl b) k := ⟨.inl ⟨a, b, rfl, rfl, q⟩⟩
theorem IsT.non {b : Bool} {k : Bool → Prop} (q : k false) : IsT .non (.bl b) k := ⟨.inr ⟨rfl, ⟨b, rfl⟩, q⟩⟩
def oIsT : R2 := fun x y H Q => IsT x y fun b => Q (.bl b) H
def oNotT : R2 := fun x y H Q => IsT x y fun b => Q (.bl (!b)) H
theorem o_isT {X : Cx} : OpR X (compareOp .Is) oIsT := by
  intro pins s σ H x y v u Q I rx ry h
  rcases h.ex with ⟨a, b, rfl, rfl, hq⟩ | ⟨rfl, ⟨b, rfl⟩, hq⟩
  · exact op_isBl pins s σ H _ _ v u Q I rx ry ⟨_, _, rfl, rfl, hq⟩
  · cases rx
    cases (show u = Value.bool b from ry)
    exact wpAny_is_other rfl (fun z => by cases z) ⟨.bl false, H, I, rfl, hq⟩
theorem o_notT {X : Cx} : OpR X (compareOp .IsNot) oNotT := by
  intro pins s σ H x y v u Q I rx ry h
  rcases h.ex with ⟨a, b, rfl, rfl, hq⟩ | ⟨rfl, ⟨b, rfl⟩, hq⟩
  · exact op_notBl pins s σ H _ _ v u Q I rx ry ⟨_, _, rfl, rfl, hq⟩
  · cases rx
    cases (show u = Value.bool b from ry)
    exact wpAny_isNot_other rfl (fun z => by cases z) ⟨.bl true, H, I, rfl, hq⟩
end S
namespace S
open PySem PySem.Spec PyProof.Rows L2
/-- == of data, or of two dicts with the same keys and flat values -/
structure EqDc (K : Frag) (H : Hp) (a b : Addr) (k : Bool → Prop) : Prop where
  ex : EqD K H (.ref a) (.ref b) k ∨ ∃ ks ls, H a = some (.dK ks) ∧ H b = some (.dK ls) ∧ ks.length = ls.length ∧ (∀ p ∈ ks, valV ls p.1 = some p.2 ∧ flatB p.2 = true) ∧ k true
theorem EqDc.d {K : Frag} {H : Hp} {a b : Addr} {k : Bool → Prop} {ks ls : List (Key × V)} (h1 : H a = some (.dK ks)) (h2 : H b = some (.dK ls)) (hl : ks.length = ls.length) (h : ∀ p ∈ ks, valV ls p.1 = some p.2 ∧ flatB p.2 = true) (q : k true) : EqDc K H a b k := ⟨.inr ⟨ks, ls, h1, h2, hl, h, q⟩⟩
def oNeDc (K : Frag) : R2 := fun x y H Q => match x, y with
  | .ref a, .ref b => EqDc K H a b fun r => Q (.bl (!r)) H
  | x, y => oNe K x y H Q
def oEqDc (K : Frag) : R2 := fun x y H Q => match x, y with
  | .ref a, .ref b => EqDc K H a b fun r => Q (.bl r) H
  | x, y => oEq K x y H Q
theorem op_neDc {X : Cx} (hu : X.A.units + 64 < cLine) : OpR X (compareOp .NotEq) (oNeDc X.K) := by
  have h0 : OpR X (compareOp .NotEq) (oNe X.K) := o_ne hu
  have h1 : OpR X (compareOp .NotEq) rNeDA := op_ne_dictA (by omega)
  intro pins s σ H x y v u Q I rx ry q
  have two : ∀ a b, x = .ref a → y = .ref b → (EqDc X.K H a b fun r => Q (.bl (!r)) H) → wpAny (model X.prog X.w) X.A (compareOp .NotEq v u) (EP X pins σ Q) X.xe s := by
    intro a b ex ey q1
    clear q
    subst ex ey
    rcases q1.ex with q | ⟨ks, ls, ha, hb, hl, hp, q⟩
    · exact h0 pins s σ H _ _ v u Q I rx ry (show oNe X.K (.ref a) (.ref b) H Q from q)
    · exact h1 pins s σ H _ _ v u Q I rx ry ⟨a, b, ks, ls, rfl, rfl, ha, hb, hl, hp, q⟩
  cases x <;> cases y <;> first | exact two _ _ rfl rfl q | exact h0 pins s σ H _ _ v u Q I rx ry q
theorem op_eqDc {X : Cx} (hu : X.A.units + 64 < cLine) : OpR X (compareOp .Eq) (oEqDc X.K) := by
  have h0 : OpR X (compareOp .Eq) (oEq X.K) := o_eq hu
  have h1 : OpR X (compareOp .Eq) rEqDA := op_eq_dictA (by omega)
  intro pins s σ H x y v u Q I rx ry q
  have two : ∀ a b, x = .ref a → y = .ref b → (EqDc X.K H a b fun r => Q (.bl r) H) → wpAny (model X.prog X.w) X.A (compareOp .Eq v u) (EP X pins σ Q) X.xe s := by
    intro a b ex ey q1
    clear q
    subst ex ey
    rcases q1.ex with q | ⟨ks, ls, ha, hb, hl, hp, q⟩
    · exact h0 pins s σ H _ _ v u Q I rx ry (show oEq X.K (.ref a) (.ref b) H Q from q)
    · exact h1 pins s σ H _ _ v u Q I rx ry ⟨a, b, ks, ls, rfl, rfl, ha, hb, hl, hp, q⟩
  cases x <;> cases y <;> first | exact two _ _ rfl rfl q | exact h0 pins s σ H _ _ v u Q I rx ry q
end S
namespace S
open PySem PySem.Spec PyProof.Rows L2
def csT : List Str := ["AtMost", "Present", "HasBit", "Both", "Either", "Opposite", "Surely"]
def nT : Nat := 13
end S
namespace S
open PySem PySem.Spec PyProof.Rows L2
def top (i : Nat) : Stmt := PySem.Challenge.pw_slicedcolumns_k42_truth.main.body.getD i (.Pass ⟨0, 0, 0, 0⟩)
abbrev s__law_draw : Stmt := top 17
abbrev s__law_names : Stmt := top 21
abbrev s__law_wide : Stmt := top 18
abbrev s__law_number : Stmt := top 19
abbrev s__law_leaf : Stmt := top 22
abbrev s__law_recipe : Stmt := top 23
abbrev s_Questiondd_initdd : Stmt := inClass (top 8) 0
abbrev s_Bothdd_initdd : Stmt := inClass (top 12) 0
abbrev s_Questiondd_anddd : Stmt := inClass (top 8) 3
abbrev s_Eitherdd_initdd : Stmt := inClass (top 13) 0
abbrev s_Questiondd_ordd : Stmt := inClass (top 8) 4
abbrev s_Oppositedd_initdd : Stmt := inClass (top 14) 0
abbrev s_Questiondd_invertdd : Stmt := inClass (top 8) 5
abbrev s_Surelydd_initdd : Stmt := inClass (top 15) 0
abbrev s_Question_surely : Stmt := inClass (top 8) 2
abbrev s_Presentdd_initdd : Stmt := inClass (top 10) 0
abbrev s_HasBitdd_initdd : Stmt := inClass (top 11) 0
abbrev s_Formdd_initdd : Stmt := inClass (top 7) 1
abbrev s_AtMostdd_initdd : Stmt := inClass (top 9) 0
abbrev s__law_question : Stmt := top 24
abbrev s__law_value : Stmt := top 20
abbrev s__law_leaf_truth : Stmt := top 25
abbrev s__law_truth : Stmt := top 26
abbrev s_Form_value : Stmt := inClass (top 7) 10
abbrev s_AtMost_truth : Stmt := inClass (top 9) 2
abbrev s_Present_truth : Stmt := inClass (top 10) 2
abbrev s_HasBit_truth : Stmt := inClass (top 11) 2
abbrev s_Surely_truth : Stmt := inClass (top 15) 1
abbrev s_rank_of : Stmt := top 3
abbrev s_opposite_truth : Stmt := top 6
abbrev s_Opposite_truth : Stmt := inClass (top 14) 1
abbrev s_either_truths : Stmt := top 5
abbrev s_Either_truth : Stmt := inClass (top 13) 1
abbrev s_both_truths : Stmt := top 4
abbrev s_Both_truth : Stmt := inClass (top 12) 1
abbrev s__law_same : Stmt := top 27
abbrev s_law : Stmt := top 28
def hfn : List DfX := (⟨fun K => He.fAd K ("_law_draw", none), "_law_draw", "_law_draw", defArgs s__law_draw, defBody s__law_draw, defScope s__law_draw, [], [], []⟩ : DfX) :: (⟨fun K => He.fAd K ("_law_names", none), "_law_names", "_law_names", defArgs s__law_names, defBody s__law_names, defScope s__law_names, [], [], []⟩ : DfX) :: (⟨fun K => He.fAd K ("_law_wide", none), "_law_wide", "_law_wide", defArgs s__law_wide, defBody s__law_wide, defScope s__law_wide, [], [], []⟩ : DfX) :: (⟨fun K => He.fAd K ("_law_number", none), "_law_number", "_law_number", defArgs s__law_number, defBody s__law_number, defScope s__law_number, [], [], []⟩ : DfX) :: (⟨fun K => He.fAd K ("_law_leaf", none), "_law_leaf", "_law_leaf", defArgs s__law_leaf, defBody s__law_leaf, defScope s__law_leaf, [], [], []⟩ : DfX) :: (⟨fun K => He.fAd K ("_law_recipe", none), "_law_recipe", "_law_recipe", defArgs s__law_recipe, defBody s__law_recipe, defScope s__law_recipe, [], [], []⟩ : DfX) :: (⟨fun K => He.fAd K ("Question", some "__init__"), "__init__", "Question.__init__", defArgs s_Questiondd_initdd, defBody s_Questiondd_initdd, defScope s_Questiondd_initdd, [], [], []⟩ : DfX) :: (⟨fun K => He.fAd K ("Both", some "__init__"), "__init__", "Both.__init__", defArgs s_Bothdd_initdd, defBody s_Bothdd_initdd, defScope s_Bothdd_initdd, [], [], ["__class__"]⟩ : DfX) :: (⟨fun K => He.fAd K ("Question", some "__and__"), "__and__", "Question.__and__", defArgs s_Questiondd_anddd, defBody s_Questiondd_anddd, defScope s_Questiondd_anddd, [], [], []⟩ : DfX) :: (⟨fun K => He.fAd K ("Either", some "__init__"), "__init__", "Either.__init__", defArgs s_Eitherdd_initdd, defBody s_Eitherdd_initdd, defScope s_Eitherdd_initdd, [], [], ["__class__"]⟩ : DfX) :: (⟨fun K => He.fAd K ("Question", some "__or__"), "__or__", "Question.__or__", defArgs s_Questiondd_ordd, defBody s_Questiondd_ordd, defScope s_Questiondd_ordd, [], [], []⟩ : DfX) :: (⟨fun K => He.fAd K ("Opposite", some "__init__"), "__init__", "Opposite.__init__", defArgs s_Oppositedd_initdd, defBody s_Oppositedd_initdd, defScope s_Oppositedd_initdd, [], [], ["__class__"]⟩ : DfX) :: (⟨fun K => He.fAd K ("Question", some "__invert__"), "__invert__", "Question.__invert__", defArgs s_Questiondd_invertdd, defBody s_Questiondd_invertdd, defScope s_Questiondd_invertdd, [], [], []⟩ : DfX) :: (⟨fun K => He.fAd K ("Surely", some "__init__"), "__init__", "Surely.__init__", defArgs s_Surelydd_initdd, defBody s_Surelydd_initdd, defScope s_Surelydd_initdd, [], [], ["__class__"]⟩ : DfX) :: (⟨fun K => He.fAd K ("Question", some "surely"), "surely", "Question.surely", defArgs s_Question_surely, defBody s_Question_surely, defScope s_Question_surely, [], [], []⟩ : DfX) :: (⟨fun K => He.fAd K ("Present", some "__init__"), "__init__", "Present.__init__", defArgs s_Presentdd_initdd, defBody s_Presentdd_initdd, defScope s_Presentdd_initdd, [], [], ["__class__"]⟩ : DfX) :: (⟨fun K => He.fAd K ("HasBit", some "__init__"), "__init__", "HasBit.__init__", defArgs s_HasBitdd_initdd, defBody s_HasBitdd_initdd, defScope s_HasBitdd_initdd, [], [], ["__class__"]⟩ : DfX) :: (⟨fun K => He.fAd K ("Form", some "__init__"), "__init__", "Form.__init__", defArgs s_Formdd_initdd, defBody s_Formdd_initdd, defScope s_Formdd_initdd, [.int 0], [], []⟩ : DfX) :: (⟨fun K => He.fAd K ("AtMost", some "__init__"), "__init__", "AtMost.__init__", defArgs s_AtMostdd_initdd, defBody s_AtMostdd_initdd, defScope s_AtMostdd_initdd, [], [], ["__class__"]⟩ : DfX) :: (⟨fun K => He.fAd K ("_law_question", none), "_law_question", "_law_question", defArgs s__law_question, defBody s__law_question, defScope s__law_question, [], [], []⟩ : DfX) :: (⟨fun K => He.fAd K ("_law_value", none), "_law_value", "_law_value", defArgs s__law_value, defBody s__law_value, defScope s__law_value, [], [], []⟩ : DfX) :: (⟨fun K => He.fAd K ("_law_leaf_truth", none), "_law_leaf_truth", "_law_leaf_truth", defArgs s__law_leaf_truth, defBody s__law_leaf_truth, defScope s__law_leaf_truth, [], [], []⟩ : DfX) :: (⟨fun K => He.fAd K ("_law_truth", none), "_law_truth", "_law_truth", defArgs s__law_truth, defBody s__law_truth, defScope s__law_truth, [], [], []⟩ : DfX) :: (⟨fun K => He.fAd K ("Form", some "value"), "value", "Form.value", defArgs s_Form_value, defBody s_Form_value, defScope s_Form_value, [], [], []⟩ : DfX) :: (⟨fun K => He.fAd K ("AtMost", some "truth"), "truth", "AtMost.truth", defArgs s_AtMost_truth, defBody s_AtMost_truth, defScope s_AtMost_truth, [], [], []⟩ : DfX) :: (⟨fun K => He.fAd K ("Present", some "truth"), "truth", "Present.truth", defArgs s_Present_truth, defBody s_Present_truth, defScope s_Present_truth, [], [], []⟩ : DfX) :: (⟨fun K => He.fAd K ("HasBit", some "truth"), "truth", "HasBit.truth", defArgs s_HasBit_truth, defBody s_HasBit_truth, defScope s_HasBit_truth, [], [], []⟩ : DfX) :: (⟨fun K => He.fAd K ("Surely", some "truth"), "truth", "Surely.truth", defArgs s_Surely_truth, defBody s_Surely_truth, defScope s_Surely_truth, [], [], []⟩ : DfX) :: (⟨fun K => He.fAd K ("rank_of", none), "rank_of", "rank_of", defArgs s_rank_of, defBody s_rank_of, defScope s_rank_of, [], [], []⟩ : DfX) :: (⟨fun K => He.fAd K ("opposite_truth", none), "opposite_truth", "opposite_truth", defArgs s_opposite_truth, defBody s_opposite_truth, defScope s_opposite_truth, [], [], []⟩ : DfX) :: (⟨fun K => He.fAd K ("Opposite", some "truth"), "truth", "Opposite.truth", defArgs s_Opposite_truth, defBody s_Opposite_truth, defScope s_Opposite_truth, [], [], []⟩ : DfX) :: (⟨fun K => He.fAd K ("either_truths", none), "either_truths", "either_truths", defArgs s_either_truths, defBody s_either_truths, defScope s_either_truths, [], [], []⟩ : DfX) :: (⟨fun K => He.fAd K ("Either", some "truth"), "truth", "Either.truth", defArgs s_Either_truth, defBody s_Either_truth, defScope s_Either_truth, [], [], []⟩ : DfX) :: (⟨fun K => He.fAd K ("both_truths", none), "both_truths", "both_truths", defArgs s_both_truths, defBody s_both_truths, defScope s_both_truths, [], [], []⟩ : DfX) :: (⟨fun K => He.fAd K ("Both", some "truth"), "truth", "Both.truth", defArgs s_Both_truth, defBody s_Both_truth, defScope s_Both_truth, [], [], []⟩ : DfX) :: (⟨fun K => He.fAd K ("_law_same", none), "_law_same", "_law_same", defArgs s__law_same, defBody s__law_same, defScope s__law_same, [], [], []⟩ : DfX) :: (⟨fun K => He.fAd K ("law", none), "law", "law", defArgs s_law, defBody s_law, defScope s_law, [], [], []⟩ : DfX) :: []
abbrev hP : Program := PySem.Challenge.rw_slicedcolumns_k42_truth.prog
def hfx : List (Frag → Bool) := (cfB "Form" ["offset", "terms"]) :: (dfB "AtMost" ["Question"] ["parts", "terms", "bound"]) :: (dfB "Both" ["Question"] ["parts", "one", "other"]) :: (dfB "Either" ["Question"] ["parts", "one", "other"]) :: (dfB "HasBit" ["Question"] ["parts", "name", "place"]) :: (dfB "Opposite" ["Question"] ["parts", "part"]) :: (dfB "Present" ["Question"] ["parts", "name"]) :: (dfB "Surely" ["Question"] ["parts", "part"]) :: (nfB csT "and") :: (nfB csT "or") :: (fun K => decide (He.fAd K ("AtMost", some "__and__") = He.fAd K ("Question", some "__and__"))) :: (fun K => decide (He.fAd K ("AtMost", some "__invert__") = He.fAd K ("Question", some "__invert__"))) :: (fun K => decide (He.fAd K ("AtMost", some "__or__") = He.fAd K ("Question", some "__or__"))) :: (fun K => decide (He.fAd K ("AtMost", some "surely") = He.fAd K ("Question", some "surely"))) :: (fun K => decide (He.fAd K ("Both", some "__and__") = He.fAd K ("Question", some "__and__"))) :: (fun K => decide (He.fAd K ("Both", some "__invert__") = He.fAd K ("Question", some "__invert__"))) :: (fun K => decide (He.fAd K ("Both", some "__or__") = He.fAd K ("Question", some "__or__"))) :: (fun K => decide (He.fAd K ("Both", some "surely") = He.fAd K ("Question", some "surely"))) :: (fun K => decide (He.fAd K ("Either", some "__and__") = He.fAd K ("Question", some "__and__"))) :: (fun K => decide (He.fAd K ("Either", some "__invert__") = He.fAd K ("Question", some "__invert__"))) :: (fun K => decide (He.fAd K ("Either", some "__or__") = He.fAd K ("Question", some "__or__"))) :: (fun K => decide (He.fAd K ("Either", some "surely") = He.fAd K ("Question", some "surely"))) :: (fun K => decide (He.fAd K ("HasBit", some "__and__") = He.fAd K ("Question", some "__and__"))) :: (fun K => decide (He.fAd K ("HasBit", some "__invert__") = He.fAd K ("Question", some "__invert__"))) :: (fun K => decide (He.fAd K ("HasBit", some "__or__") = He.fAd K ("Question", some "__or__"))) :: (fun K => decide (He.fAd K ("HasBit", some "surely") = He.fAd K ("Question", some "surely"))) :: (fun K => decide (He.fAd K ("Opposite", some "__and__") = He.fAd K ("Question", some "__and__"))) :: (fun K => decide (He.fAd K ("Opposite", some "__invert__") = He.fAd K ("Question", some "__invert__"))) :: (fun K => decide (He.fAd K ("Opposite", some "__or__") = He.fAd K ("Question", some "__or__"))) :: (fun K => decide (He.fAd K ("Opposite", some "surely") = He.fAd K ("Question", some "surely"))) :: (fun K => decide (He.fAd K ("Present", some "__and__") = He.fAd K ("Question", some "__and__"))) :: (fun K => decide (He.fAd K ("Present", some "__invert__") = He.fAd K ("Question", some "__invert__"))) :: (fun K => decide (He.fAd K ("Present", some "__or__") = He.fAd K ("Question", some "__or__"))) :: (fun K => decide (He.fAd K ("Present", some "surely") = He.fAd K ("Question", some "surely"))) :: (fun K => decide (He.fAd K ("Surely", some "__and__") = He.fAd K ("Question", some "__and__"))) :: (fun K => decide (He.fAd K ("Surely", some "__invert__") = He.fAd K ("Question", some "__invert__"))) :: (fun K => decide (He.fAd K ("Surely", some "__or__") = He.fAd K ("Question", some "__or__"))) :: (fun K => decide (He.fAd K ("Surely", some "surely") = He.fAd K ("Question", some "surely"))) :: (fun K => He.tupB K "RANKED" [.bl false, .non, .bl true]) :: (supB hP "AtMost" "Question") :: (supB hP "Both" "Question") :: (supB hP "Either" "Question") :: (supB hP "HasBit" "Question") :: (supB hP "Opposite" "Question") :: (supB hP "Present" "Question") :: (supB hP "Surely" "Question") :: []
def hfa : List He.Fa := (.glo "AtMost") :: (.glo "Both") :: (.glo "Either") :: (.glo "Form") :: (.glo "HasBit") :: (.glo "Opposite") :: (.glo "Present") :: (.glo "RANKED") :: (.glo "Surely") :: (.glo "_law_draw") :: (.glo "_law_leaf") :: (.glo "_law_leaf_truth") :: (.glo "_law_names") :: (.glo "_law_number") :: (.glo "_law_question") :: (.glo "_law_recipe") :: (.glo "_law_same") :: (.glo "_law_truth") :: (.glo "_law_value") :: (.glo "_law_wide") :: (.glo "both_truths") :: (.glo "either_truths") :: (.glo "law") :: (.glo "opposite_truth") :: (.glo "rank_of") :: (.free "abs") :: (.free "dict") :: (.free "int") :: (.free "len") :: (.free "max") :: (.free "min") :: (.free "range") :: (.free "sorted") :: (.free "sum") :: (.free "super") :: (.free "tuple") :: (.mkr "AtMost") :: (.mkr "Both") :: (.mkr "Either") :: (.mkr "Form") :: (.mkr "HasBit") :: (.mkr "Opposite") :: (.mkr "Present") :: (.mkr "Surely") :: (.meth "AtMost" "__and__") :: (.meth "AtMost" "__invert__") :: (.meth "AtMost" "__or__") :: (.meth "AtMost" "surely") :: (.meth "AtMost" "truth") :: (.meth "Both" "__and__") :: (.meth "Both" "__invert__") :: (.meth "Both" "__or__") :: (.meth "Both" "surely") :: (.meth "Both" "truth") :: (.meth "Either" "__and__") :: (.meth "Either" "__invert__") :: (.meth "Either" "__or__") :: (.meth "Either" "surely") :: (.meth "Either" "truth") :: (.meth "Form" "value") :: (.meth "HasBit" "__and__") :: (.meth "HasBit" "__invert__") :: (.meth "HasBit" "__or__") :: (.meth "HasBit" "surely") :: (.meth "HasBit" "truth") :: (.meth "Opposite" "__and__") :: (.meth "Opposite" "__invert__") :: (.meth "Opposite" "__or__") :: (.meth "Opposite" "surely") :: (.meth "Opposite" "truth") :: (.meth "Present" "__and__") :: (.meth "Present" "__invert__") :: (.meth "Present" "__or__") :: (.meth "Present" "surely") :: (.meth "Present" "truth") :: (.meth "Surely" "__and__") :: (.meth "Surely" "__invert__") :: (.meth "Surely" "__or__") :: (.meth "Surely" "surely") :: (.meth "Surely" "truth") :: []
abbrev hR : PySem.W.OpenRow := PySem.W.OpenLaw.row PySem.Challenge.rw_slicedcolumns_k42_truth
def hloose : List Str := "_wall" :: "RANKED" :: "rank_of" :: "both_truths" :: "either_truths" :: "opposite_truth" :: "Form" :: "Question" :: "AtMost" :: "Present" :: "HasBit" :: "Both" :: "Either" :: "Opposite" :: "Surely" :: "_law_draw" :: "_law_wide" :: "_law_number" :: "_law_value" :: "_law_names" :: "_law_leaf" :: "_law_recipe" :: "_law_question" :: "_law_leaf_truth" :: "_law_truth" :: "_law_same" :: []
def hnm : List Str := "RANKED" :: "rank_of" :: "both_truths" :: "either_truths" :: "opposite_truth" :: "Form" :: "Question" :: "AtMost" :: "Present" :: "HasBit" :: "Both" :: "Either" :: "Opposite" :: "Surely" :: "_law_draw" :: "_law_wide" :: "_law_number" :: "_law_value" :: "_law_names" :: "_law_leaf" :: "_law_recipe" :: "_law_question" :: "_law_leaf_truth" :: "_law_truth" :: "_law_same" :: "law" :: []
abbrev hhk : PySem.W.Hook := hookY hnm hfa hfx hfn
def hob (s : PySem.W.SharedT) : AlX := obsYG hnm hfa hfx hfn (HandSHeadRun.getT s)
theorem hob_eq (s : PySem.W.SharedT) : hob s = hhk.obs s.abs := obsYG_eq (HandSHeadRun.getT_eq s)
section
open HandSHeadRun PySem.W
theorem hq1 (w : World) (os : OsState) : (HandSHeadRun.endF (HandSHeadRun.stepQ (HandSHeadRun.denQ HandSHeadRun.tabQ) hR.prog w) 16000 hR.prog w os).map (fun s => (HandSHeadRun.looksF hR.prog (boot_heap w.params) s.abs, HandSHeadRun.seenQ (PySem.W.view hR.prog [28]) hloose (importedModules hR.prog.main.body) (fun s => xlAt (PySem.W.view hR.prog [28]) [] s && recOk hR.toRowW.records s) s.abs)) = some (true, openGood (PySem.W.view hR.prog [28]) hloose) := by kernel_rfl
theorem hq2 (w : World) (os : OsState) : (HandSHeadRun.endF (HandSHeadRun.stepQ (HandSHeadRun.denQ HandSHeadRun.tabQ) hR.prog w) 16000 hR.prog w os).map (fun s => hob s) = some (hhk.val w) := by kernel_rfl
end
theorem hrun (w : World) : HandSHeadRun.RunEq hR (PySem.W.view hR.prog [28]) hhk hob 16000 hloose w := by
  intro os
  exact run_split2 (hq1 w os) (hq2 w os)
end S
/-! ## short tactics (local rows) -/
open PySem PySem.Spec PyProof.Rows L2 S in
local macro_rules | `(tactic| walk_at "ne") => `(tactic| first | assumption | (apply Ne.symm; assumption) | (apply ne_of_none <;> assumption))
open PySem PySem.Spec PyProof.Rows L2 S in
local macro_rules | `(tactic| walk_at "hp") => `(tactic| first | assumption | exact upd_same | (refine' up_of ?n1 ?h1; (case n1 => walk_at "ne"); (case h1 => walk_at "hp")))
open PySem PySem.Spec PyProof.Rows L2 S in
local macro_rules | `(tactic| walk_at "sx") => `(tactic| first | assumption | exact SameX.refl _ _ | (refine' SameX.put ?h1; (case h1 => walk_at "sx")))
open PySem PySem.Spec PyProof.Rows L2 S in
local macro_rules | `(tactic| walk_at "sl") => `(tactic| first | assumption | (refine' appS ?h1 ?e1; (case h1 => assumption); (case e1 => walk_at "sx")) | (refine' sl_upd ?h1 ?n1; (case n1 => walk_at "ne"); (case h1 => walk_at "sl")))
open PySem PySem.Spec PyProof.Rows L2 S in
local macro_rules | `(tactic| walk_at "st") => `(tactic| first | assumption | (refine' st_upd ?h1 ?n1; (case n1 => walk_at "ne"); (case h1 => walk_at "st")))
open PySem PySem.Spec PyProof.Rows L2 S in
local macro_rules | `(tactic| walk_at "ar") => `(tactic| first | omega | decide | (exact ⟨by decide, by decide⟩) | (exact ⟨by decide, by decide, by decide⟩) | (simp only [CDiv, CPow, CMul]; omega) | (exact .inl (by omega)) | (exact .inr (by omega)) | (simp only [sizeLine_eq, List.length_map, List.length_cons, List.length_nil, List.length_append, List.length_reverse]; omega))
open PySem PySem.Spec PyProof.Rows L2 S in
local macro_rules | `(tactic| walk_at "rd") => `(tactic| first
  | (refine' Rd.l ?h1 ?h2; (case h1 => walk_at "hp"))
  | (refine' Rd.sl ?h1 ?h2; (case h1 => walk_at "sl"))
  | (refine' Rd.st ?h1 ?h2; (case h1 => walk_at "st"))
  | (refine' Rd.sa ?h1 ?h2; (case h1 => assumption))
  | (refine' S.At.of ?h1 ?h2; (case h1 => (first | rfl | assumption)))
  | (refine' Ls.of ?h1 ?h2; (case h1 => walk_at "hp"))
  | (refine' IsL.of ?h1 ?h2; (case h1 => walk_at "hp"))
  | (refine' Pl.of ?h1 ?h2; (case h1 => rfl))
  | (refine' Need.mk ?h1 ?h2; (case h1 => walk_at "ar")))
open PySem PySem.Spec PyProof.Rows L2 S in
local macro_rules | `(tactic| walk_at "go") => `(tactic| (repeat walk_at "rd"))
open PySem PySem.Spec PyProof.Rows L2 S in
local macro_rules | `(tactic| walk_at "gx") => `(tactic| (repeat (first | walk_at "rd" | refine' Stop.mk ?_)))
/-! ## the laws' own harness: draws -/
namespace S
open PySem PySem.Spec PyProof.Rows L2
theorem at_ints {ns : List Int} {i : Int} (h0 : 0 ≤ i) (h1 : i < ns.length) : ∃ x, atI (ns.map V.int) i = some (.int x) := by
  obtain ⟨j, rfl⟩ := Int.eq_ofNat_of_zero_le h0
  have hl : j < ns.length := by omega
  refine ⟨ns[j], atI_nat ?_⟩
  rw [List.getElem?_map, List.getElem?_eq_getElem hl]
  rfl
/-- the state of the draws: place, left, number, kind -/
def DrawSt (l : List V) : Prop := ∃ a b n k : Int, l = [.int a, .int b, .int n, .int k] ∧ 0 ≤ a ∧ 0 ≤ n ∧ (b = 0 ∨ k = 2 ∨ n < 10 ^ 18)
/-- the script at a: the calls leave it -/
def ScrAt (K : Frag) (H : Hp) (a st : Addr) (ns : List Int) : Prop := (a ≠ st ∧ SqL K H a (ns.map V.int)) ∨ ∀ H', SqL K H' a (ns.map V.int)
/-- the script at a, the state at st -/
structure Ctx (K : Frag) (H : Hp) (a st : Addr) : Prop where
  scr : ∃ ns : List Int, ScrAt K H a st ns
  stt : ∃ l, H st = some (.lst l) ∧ DrawSt l
theorem ScrAt.sl {K : Frag} {H : Hp} {a st : Addr} {ns : List Int} (h : ScrAt K H a st ns) : SqL K H a (ns.map V.int) := by
  rcases h with ⟨_, h⟩ | h
  · exact h
  · exact h H
theorem ScrAt.x {K : Frag} {H H' : Hp} {a st : Addr} {ns : List Int} (h : ScrAt K H a st ns) (e : SameX st H H') : ScrAt K H' a st ns := by
  rcases h with ⟨n, h⟩ | h
  · exact .inl ⟨n, e.seq h n⟩
  · exact .inr h
theorem ScrAt.same {K : Frag} {H H' : Hp} {a st : Addr} {ns : List Int} (h : ScrAt K H a st ns) (e : Same H H') : ScrAt K H' a st ns := h.x (Same.x e)
theorem Ctx.same {K : Frag} {H H' : Hp} {a st : Addr} (c : Ctx K H a st) (e : Same H H') : Ctx K H' a st := by
  obtain ⟨⟨ns, h⟩, l, hl, d⟩ := c
  exact ⟨⟨ns, h.same e⟩, l, e _ _ hl, d⟩
def sp__law_draw (K : Frag) : Sp := fun vs H Q _ => ∃ (a st : Addr) (base : Int), vs = [.ref a, .ref st, .int base] ∧ Ctx K H a st ∧ 0 < base ∧
  ∀ (r : Int) (H' : Hp), 0 ≤ r → r < base → Ctx K H' a st → SameX st H H' → Q (.int r) H'
/-- a list made behind H0 may change -/
theorem SameX.mut {st : Addr} {H0 H1 : Hp} {p : Addr} {o : HO} (e : SameX st H0 H1) (n : H0 p = none) : SameX st H0 (L2.upd H1 p o) := fun b u h k => by
  rw [upd_ne (ne_of_none h n)]
  exact e b u h k
theorem Same.mut {H0 H1 : Hp} {p : Addr} {o : HO} (e : Same H0 H1) (n : H0 p = none) : Same H0 (upd H1 p o) := fun b u h => by
  rw [upd_ne (ne_of_none h n)]
  exact e b u h
theorem Ctx.mut {K : Frag} {H0 H1 : Hp} {a st p : Addr} {o : HO} (c : Ctx K H1 a st) (e : Ctx K H0 a st) (n : H0 p = none) : Ctx K (L2.upd H1 p o) a st := by
  obtain ⟨⟨ns, h⟩, l, hl, d⟩ := c
  obtain ⟨⟨ns0, h0⟩, l0, hl0, d0⟩ := e
  have n1 : st ≠ p := ne_of_none hl0 n
  refine ⟨?_, l, by rw [upd_ne n1]; exact hl, d⟩
  rcases h with ⟨na, h⟩ | h
  · by_cases e : a = p
    · subst e
      rcases h0.sl with (h0 | ⟨_, h0⟩) | h0
      · rw [n] at h0; cases h0
      · rw [n] at h0; cases h0
      · exact ⟨ns0, .inr fun H' => .inr h0⟩
    · exact ⟨ns, .inl ⟨na, sl_upd h e⟩⟩
  · exact ⟨ns, .inr h⟩
/-- ends ascending within a size -/
def Ends (size : Int) (ns : List Int) : Prop := ns.Pairwise (· < ·) ∧ ∀ x ∈ ns, 0 ≤ x ∧ x < size
theorem Ends.snoc {size at_ : Int} {ns : List Int} (h : Ends size ns) (hb : ∀ x ∈ ns, x < at_) (h0 : 0 ≤ at_) (h1 : at_ < size) : Ends size (ns ++ [at_]) := by
  refine ⟨List.pairwise_append.mpr ⟨h.1, List.pairwise_singleton _ _, fun x hx y hy => ?_⟩, fun x hx => ?_⟩
  · rw [List.mem_singleton.mp hy]
    exact hb x hx
  · rcases List.mem_append.mp hx with hx | hx
    · exact h.2 x hx
    · rw [List.mem_singleton.mp hx]
      exact ⟨h0, h1⟩
end S
-- deps: D0
/-! ## data compared, isinstance -/
namespace S
open PySem PySem.Spec PyProof.Rows L2
theorem dp_ints {K : Frag} {H : Hp} : ∀ ns : List Int, DpAll K H (ns.map V.int) (ns.map PyData.int)
  | [] => .nil
  | n :: r => .cons (.int n) (dp_ints r)
theorem can_ints : ∀ ns : List Int, PyData.canLayAll0 (ns.map PyData.int) = true
  | [] => rfl
  | n :: r => by
    show (PyData.canLay0 (.int n) && PyData.canLayAll0 (r.map PyData.int)) = true
    rw [can_ints r]; rfl
theorem dep_ints : ∀ ns : List Int, PyData.depthAll (ns.map PyData.int) = 0
  | [] => rfl
  | n :: r => by
    show max (PyData.depth (.int n)) (PyData.depthAll (r.map PyData.int)) = 0
    rw [dep_ints r]; rfl
theorem shp_ints (ns : List Int) : SeqAt.shaped (.list (ns.map PyData.int)) = true := by
  unfold SeqAt.shaped
  have e1 : PyData.canLay0 (.list (ns.map PyData.int)) = true := can_ints ns
  have e2 : PyData.depth (.list (ns.map PyData.int)) = 1 := by show PyData.depthAll _ + 1 = 1; rw [dep_ints]
  rw [e1, e2]; rfl
theorem eqv_ints : ∀ xs ys : List Int, PyData.eqvAll (xs.map PyData.int) (ys.map PyData.int) = decide (xs = ys)
  | [], [] => rfl
  | [], _ :: _ => by simp [PyData.eqvAll]
  | _ :: _, [] => by simp [PyData.eqvAll]
  | x :: xs, y :: ys => by
    show (PyData.eqv (.int x) (.int y) && PyData.eqvAll (xs.map PyData.int) (ys.map PyData.int)) = _
    rw [eqv_ints xs ys]
    show ((x == y) && decide (xs = ys)) = _
    by_cases h : x = y <;> by_cases h2 : xs = ys <;> simp [h, h2]
theorem eqd_ll {K : Frag} {H : Hp} {a b : Addr} {xs ys : List Int} {k : Bool → Prop} (h : SqL K H a (xs.map V.int)) (h2 : SqL K H b (ys.map V.int)) (q : k (decide (xs = ys))) : EqD K H (.ref a) (.ref b) k :=
  ⟨_, _, .lst h (dp_ints xs), .lst h2 (dp_ints ys), shp_ints xs, shp_ints ys, by
    have e : PyData.eqv (.list (xs.map PyData.int)) (.list (ys.map PyData.int)) = decide (xs = ys) := eqv_ints xs ys
    rw [e]; exact q⟩
theorem isi_tup {K : Frag} {H : Hp} {p : Addr} {xs : List V} {k : Bool → Prop} (h : SqT K H p xs) (q : k true) : Isi K H (.ref p) (.type "tuple") k := by
  rcases h with (h | ⟨o, h⟩) | ⟨o, its, n, h1, h2, _⟩
  · exact Isi.of (.base (.tup h)) rfl q
  · exact Isi.of (.fTuple h) rfl q
  · exact Isi.of (.kTuple h1 h2) rfl q
theorem isi_lst {K : Frag} {H : Hp} {p : Addr} {xs : List V} {k : Bool → Prop} (h : H p = some (.lst xs)) (q : k true) : Isi K H (.ref p) (.type "list") k := Isi.of (.base (.lst h)) rfl q
theorem map_filter_ints {ns : List Int} (pr : V → Bool) (f : V → V) (p2 : Int → Bool) (f2 : Int → Int) (hp : ∀ i, pr (.int i) = p2 i) (hf : ∀ i, f (.int i) = .int (f2 i)) : ((ns.map V.int).filter pr).map f = ((ns.filter p2).map f2).map V.int := by
  induction ns with
  | nil => rfl
  | cons x r ih =>
    simp only [List.map_cons, List.filter_cons, hp]
    by_cases h : p2 x = true
    · simp only [h, if_true, List.map_cons, hf, ih]
    · rw [if_neg h, if_neg h]; exact ih
theorem Ends.drop {size : Int} {ns : List Int} (h : Ends size ns) (k : Nat) : Ends size (ns.drop k) := ⟨h.1.sublist (List.drop_sublist k ns), fun x hx => h.2 x (List.mem_of_mem_drop hx)⟩
theorem Ends.filter {size : Int} {ns : List Int} (h : Ends size ns) (p : Int → Bool) : Ends size (ns.filter p) := ⟨h.1.filter p, fun x hx => h.2 x ((List.mem_filter.mp hx).1)⟩
theorem Ends.up {size : Int} {ns : List Int} (h : Ends size ns) : Ends size ((ns.filter fun x => decide (x + 1 < size)).map fun x => x + 1) := by
  refine ⟨List.pairwise_map.mpr ((h.1.filter _).imp fun {a b} hab => by omega), fun x hx => ?_⟩
  obtain ⟨y, hy, rfl⟩ := List.mem_map.mp hx
  have h1 := (List.mem_filter.mp hy)
  have h2 := h.2 y h1.1
  have h3 : y + 1 < size := of_decide_eq_true h1.2
  omega
theorem cut_from {ns : List Int} {d : Int} (h : 0 ≤ d) : cutV (ns.map V.int) (some d) none = (ns.drop d.toNat).map V.int := by
  obtain ⟨k, rfl⟩ := Int.eq_ofNat_of_zero_le h
  unfold cutV
  rw [HT.sIx_nat, HT.sIx_none, List.length_map, Int.toNat_natCast, ← List.map_drop]
  by_cases hk : k ≤ ns.length
  · rw [Nat.min_eq_left hk, List.take_of_length_le]
    simp
  · rw [Nat.min_eq_right (by omega), List.drop_eq_nil_of_le (by omega : ns.length ≤ k)]
    simp
def sp_law (K : Frag) : Sp := fun vs H Q _ => ∃ (a : Addr) (ns : List Int), vs = [.ref a] ∧ SqL K H a (ns.map V.int) ∧ ∀ H', Q (.bl true) H'
theorem ctx0 {K : Frag} {H : Hp} {a st : Addr} {ns : List Int} (h : SqL K H a (ns.map V.int)) (hs : H st = none) (l : List V) (d : DrawSt l) : Ctx K (upd H st (.lst l)) a st := by
  refine ⟨⟨ns, ?_⟩, _, upd_same, d⟩
  rcases h with h | h
  · have ne : a ≠ st := by
      rintro rfl
      rcases h with h | ⟨_, h⟩
      · rw [hs] at h; cases h
      · rw [hs] at h; cases h
    exact .inl ⟨ne, sl_upd (.inl h) ne⟩
  · exact .inr fun H' => .inr h
theorem ctx_st {K : Frag} {H : Hp} {a st : Addr} (c : Ctx K H a st) : ∃ l, H st = some (.lst l) := let ⟨_, l, h, _⟩ := c; ⟨l, h⟩
theorem ctx_ne {K : Frag} {H : Hp} {a st p : Addr} (c : Ctx K H a st) (n : H p = none) : p ≠ st := by
  obtain ⟨l, h⟩ := ctx_st c
  exact (ne_of_none h n).symm
theorem pw_lt {ns : List Int} (h : ns.Pairwise (· < ·)) {i j : Nat} {x y : Int} (hij : i < j) (hx : ns[i]? = some x) (hy : ns[j]? = some y) : x < y := by
  obtain ⟨h1, rfl⟩ := List.getElem?_eq_some_iff.mp hx
  obtain ⟨h2, rfl⟩ := List.getElem?_eq_some_iff.mp hy
  exact List.pairwise_iff_getElem.mp h i j h1 h2 hij
end S
-- deps: D0 D1
/-! ## pairs of a name and a number -/
namespace S
open PySem PySem.Spec PyProof.Rows L2
abbrev XE (K : Frag) (x : Str) : Prop := ExF K x ["SliceError"]
abbrev Col : Type := Str × Int
def ColT (K : Frag) (H : Hp) (c : Col) (y : V) : Prop := ∃ a, y = .ref a ∧ SqT K H a [.str c.1, .int c.2]
def Cols (K : Frag) (H : Hp) (ys : List V) (cs : List Col) : Prop := Paired (ColT K H) cs ys
section
variable {K : Frag} {H H' : Hp} {ys zs : List V} {cs ds : List Col}
theorem Cols.same (h : Cols K H ys cs) (e : Same H H') : Cols K H' ys cs := Paired.mapP h fun _ _ ⟨a, h1, h2⟩ => ⟨a, h1, Same.tup e h2⟩
theorem Cols.x {st : Addr} {l : List V} (h : Cols K H ys cs) (e : SameX st H H') (hst : H st = some (.lst l)) : Cols K H' ys cs := Paired.mapP h fun _ _ ⟨a, h1, h2⟩ => ⟨a, h1, e.tup h2 hst⟩
theorem colD (c : Col) : PySem.W.Datum.toD c = PyData.tuple [.str c.1, .int c.2] := rfl
theorem dp_cols : ∀ {ys : List V} {cs : List Col}, Cols K H ys cs → DpAll K H ys (cs.map PySem.W.Datum.toD)
  | _, _, .nil => .nil
  | _, _, .cons ⟨_, e, h⟩ r => by subst e; exact .cons (.tup h (.cons (.str _) (.cons (.int _) .nil))) (dp_cols r)
theorem can_cols : ∀ cs : List Col, (∀ c ∈ cs, PyData.strOk c.1 = true) → PyData.canLayAll0 (cs.map PySem.W.Datum.toD) = true
  | [], _ => rfl
  | c :: r, h => by
    show (PyData.canLayAll0 [.str c.1, .int c.2] && PyData.canLayAll0 (r.map PySem.W.Datum.toD)) = true
    rw [can_cols r fun d hd => h d (List.mem_cons_of_mem _ hd)]
    have := h c (List.mem_cons_self ..)
    simp [PyData.canLayAll0, PyData.canLay0, this]
theorem dep_cols : ∀ cs : List Col, PyData.depthAll (cs.map PySem.W.Datum.toD) ≤ 1
  | [] => Nat.zero_le _
  | c :: r => by
    show max (PyData.depthAll [.str c.1, .int c.2] + 1) (PyData.depthAll (r.map PySem.W.Datum.toD)) ≤ 1
    have := dep_cols r
    have e : PyData.depthAll [.str c.1, .int c.2] = 0 := by simp [PyData.depthAll, PyData.depth]
    rw [e]; omega
theorem shp_cols {cs : List Col} (h : ∀ c ∈ cs, PyData.strOk c.1 = true) : SeqAt.shaped (.list (cs.map PySem.W.Datum.toD)) = true := by
  unfold SeqAt.shaped
  have e1 : PyData.canLay0 (.list (cs.map PySem.W.Datum.toD)) = true := can_cols cs h
  have e2 : PyData.depth (.list (cs.map PySem.W.Datum.toD)) ≤ 64 := by show PyData.depthAll _ + 1 ≤ 64; have := dep_cols cs; omega
  rw [e1, decide_eq_true e2]; rfl
theorem eqd_cols {a b : Addr} {k : Bool → Prop} (h : SqL K H a ys) (h2 : SqL K H b zs) (p : Cols K H ys cs) (p2 : Cols K H zs ds) (s1 : ∀ c ∈ cs, PyData.strOk c.1 = true) (s2 : ∀ c ∈ ds, PyData.strOk c.1 = true) (q : k (decide (cs = ds))) : EqD K H (.ref a) (.ref b) k :=
  ⟨_, _, .lst h (dp_cols p), .lst h2 (dp_cols p2), shp_cols s1, shp_cols s2, by
    have e : PyData.eqv (.list (cs.map PySem.W.Datum.toD)) (.list (ds.map PySem.W.Datum.toD)) = decide (cs = ds) := PySem.W.Datum.eqv cs ds
    rw [e]; exact q⟩
end
end S
-- deps: D0 D1
/-! ## terms: lists of a name and a number, dicts of them, their sorted form -/
namespace S
open PySem PySem.Spec PyProof.Rows L2
def leS (x y : Str) : Prop := x.cps.toList ≤ y.cps.toList
theorem leS_total (x y : Str) : leS x y ∨ leS y x := List.le_total _ _
theorem leS_trans {x y z : Str} (h : leS x y) (g : leS y z) : leS x z := List.le_trans h g
theorem strX {x y : Str} (h : x.cps.toList = y.cps.toList) : x = y := by
  cases x; cases y
  congr 1
  exact Array.toList_inj.mp h
theorem leS_anti {x y : Str} (h : leS x y) (g : leS y x) : x = y := strX (List.le_antisymm h g)
theorem rising_pw : ∀ (l : List Str) (p : Str), risingS p l = true → (p :: l).Pairwise leS
  | [], p, _ => List.pairwise_singleton _ _
  | x :: r, p, h => by
    obtain ⟨h1, h2⟩ := Bool.and_eq_true_iff.mp (show (!ltCps x.cps.toList p.cps.toList && risingS x r) = true from h)
    have ih := rising_pw r x h2
    rw [ltCps_eq] at h1
    have px : leS p x := List.not_lt.mp (by simpa using h1)
    refine List.pairwise_cons.mpr ⟨fun y hy => ?_, ih⟩
    rcases List.mem_cons.mp hy with rfl | hy
    · exact px
    · exact leS_trans px ((List.pairwise_cons.mp ih).1 y hy)
theorem sorted_pw : ∀ l : List Str, sortedS l = true → l.Pairwise leS
  | [], _ => .nil
  | x :: r, h => rising_pw r x h
theorem permS : ∀ {as bs : List Str}, as.Perm bs → as.Pairwise leS → bs.Pairwise leS → as = bs
  | [], bs, h, _, _ => h.nil_eq
  | a :: as, [], h, _, _ => by have := h.length_eq; rw [List.length_cons, List.length_nil] at this; omega
  | a :: as, b :: bs, h, ha, hb => by
    have h1 : a ∈ b :: bs := h.mem_iff.mp (List.mem_cons_self ..)
    have h2 : b ∈ a :: as := h.mem_iff.mpr (List.mem_cons_self ..)
    have e : a = b := by
      rcases List.mem_cons.mp h1 with h1 | h1
      · exact h1
      · rcases List.mem_cons.mp h2 with h2 | h2
        · exact h2.symm
        · exact leS_anti ((List.pairwise_cons.mp ha).1 b h2) ((List.pairwise_cons.mp hb).1 a h1)
    subst e
    rw [permS (List.perm_cons a |>.mp h) (List.pairwise_cons.mp ha).2 (List.pairwise_cons.mp hb).2]
abbrev Tms : Type := List (Str × Int)
def nmT (T : Tms) : List Str := T.map fun t => t.1
def lkT : Tms → Str → Option Int
  | [], _ => none
  | t :: T, z => if t.1 = z then some t.2 else lkT T z
theorem lkT_none {z : Str} : ∀ {T : Tms}, z ∉ nmT T → lkT T z = none
  | [], _ => rfl
  | t :: T, h => by
    show (if t.1 = z then some t.2 else lkT T z) = none
    rw [if_neg fun e => h (by rw [← e]; exact List.mem_cons_self ..)]
    exact lkT_none fun hm => h (List.mem_cons_of_mem _ hm)
theorem lkT_mem : ∀ {T : Tms} {t : Str × Int}, (nmT T).Nodup → t ∈ T → lkT T t.1 = some t.2
  | t0 :: T, t, nd, h => by
    obtain ⟨h1, h2⟩ := List.pairwise_cons.mp nd
    show (if t0.1 = t.1 then some t0.2 else lkT T t.1) = _
    rcases List.mem_cons.mp h with rfl | h
    · rw [if_pos rfl]
    · rw [if_neg (h1 t.1 (List.mem_map.mpr ⟨t, h, rfl⟩))]
      exact lkT_mem h2 h
theorem lkT_some {z : Str} {c : Int} : ∀ {T : Tms}, lkT T z = some c → (z, c) ∈ T
  | t :: T, h => by
    have h : (if t.1 = z then some t.2 else lkT T z) = some c := h
    by_cases e : t.1 = z
    · rw [if_pos e] at h
      injection h with h
      rw [← e, ← h]; exact List.mem_cons_self ..
    · rw [if_neg e] at h
      exact List.mem_cons_of_mem _ (lkT_some h)
theorem lkT_no {z : Str} : ∀ {T : Tms}, lkT T z = none → z ∉ nmT T
  | [], _, h => nomatch h
  | t :: T, e, h => by
    have e : (if t.1 = z then some t.2 else lkT T z) = none := e
    by_cases g : t.1 = z
    · rw [if_pos g] at e; cases e
    · rw [if_neg g] at e
      rcases List.mem_cons.mp h with h | h
      · exact g h.symm
      · exact lkT_no e h
theorem lkT_is {z : Str} {T : Tms} : (lkT T z).isSome = true ↔ z ∈ nmT T := by
  constructor
  · intro h
    obtain ⟨c, hc⟩ := Option.isSome_iff_exists.mp h
    exact List.mem_map.mpr ⟨_, lkT_some hc, rfl⟩
  · intro h
    cases e : lkT T z with
    | some c => rfl
    | none => exact absurd h (lkT_no e)
structure SoT (T : Tms) : Prop where
  nd : (nmT T).Nodup
  st : (nmT T).Pairwise leS
theorem tms_of {T : Tms} (nd : (nmT T).Nodup) : T = (nmT T).map fun z => (z, (lkT T z).getD 0) := by
  have h : ∀ U : Tms, (∀ t ∈ U, lkT T t.1 = some t.2) → U = (nmT U).map fun z => (z, (lkT T z).getD 0) := fun U => by
    induction U with
    | nil => intro _; rfl
    | cons t U ih =>
      intro h
      show t :: U = (t.1, (lkT T t.1).getD 0) :: _
      rw [h t (List.mem_cons_self ..)]
      congr 1
      exact ih fun u hu => h u (List.mem_cons_of_mem _ hu)
  exact h T fun t ht => lkT_mem nd ht
theorem srt_ext {T U : Tms} (h : SoT T) (g : SoT U) (e : ∀ z, lkT T z = lkT U z) : T = U := by
  have hp : (nmT T).Perm (nmT U) := (List.perm_ext_iff_of_nodup h.nd g.nd).mpr fun z => by rw [← lkT_is, ← lkT_is, e]
  have hn := permS hp h.st g.st
  refine (tms_of h.nd).trans (Eq.trans ?_ (tms_of g.nd).symm)
  rw [hn]
  exact List.map_congr_left fun z _ => by rw [e]
/-! ### dicts -/
def dkI (D : Tms) : List (Key × V) := D.map fun t => (.inr t.1, V.int t.2)
theorem dkI_val (z : Str) : ∀ D : Tms, valV (dkI D) (.inr z) = (lkT D z).map V.int
  | [] => rfl
  | t :: D => by
    have ih := dkI_val z D
    show valV (((Sum.inr t.1 : Key), V.int t.2) :: dkI D) (.inr z) = (if t.1 = z then some t.2 else lkT D z).map V.int
    by_cases e : t.1 = z
    · rw [if_pos e, valV_pos (p := ((Sum.inr t.1 : Key), V.int t.2)) (by rw [← e])]; rfl
    · rw [if_neg e, valV_neg (p := ((Sum.inr t.1 : Key), V.int t.2)) (fun h => e (Sum.inr.inj h)), ih]
theorem dkI_keys (D : Tms) : (dkI D).map (·.1) = (nmT D).map Sum.inr := by
  unfold dkI nmT
  rw [List.map_map, List.map_map]; rfl
def putT (D : Tms) (z : Str) (c : Int) : Tms := if (lkT D z).isSome then D.map fun t => if t.1 = z then (t.1, c) else t else D ++ [(z, c)]
theorem dkI_put (D : Tms) (z : Str) (c : Int) : putK (dkI D) (.inr z) (.int c) = dkI (putT D z c) := by
  have hv := dkI_val z D
  unfold putT
  by_cases h : (lkT D z).isSome
  · rw [if_pos h]
    have ha : ((dkI D).any fun kv => decide (kv.1 = .inr z)) = true := by
      rw [valV_any, hv, Option.isSome_map]; exact h
    unfold putK
    rw [if_pos ha]
    unfold dkI
    rw [List.map_map, List.map_map]
    refine List.map_congr_left fun t _ => ?_
    show (if (Sum.inr t.1 : Key) = .inr z then _ else _) = _
    by_cases e : t.1 = z
    · rw [if_pos (by rw [e])]
      show _ = ((.inr (if t.1 = z then (t.1, c) else t).1 : Key), V.int (if t.1 = z then (t.1, c) else t).2)
      rw [if_pos e]
    · rw [if_neg (fun g => e (Sum.inr.inj g))]
      show _ = ((.inr (if t.1 = z then (t.1, c) else t).1 : Key), V.int (if t.1 = z then (t.1, c) else t).2)
      rw [if_neg e]
  · rw [if_neg h]
    have hn : valV (dkI D) (.inr z) = none := by
      rw [hv]
      cases e : lkT D z with
      | none => rfl
      | some c => rw [e] at h; exact absurd rfl h
    rw [putK_new _ hn]
    unfold dkI
    rw [List.map_append]; rfl
theorem lkT_app (y : Str) : ∀ (D E : Tms), lkT (D ++ E) y = (lkT D y).or (lkT E y)
  | [], E => by simp [lkT]
  | t :: D, E => by
    have ih := lkT_app y D E
    show (if t.1 = y then some t.2 else lkT (D ++ E) y) = (if t.1 = y then some t.2 else lkT D y).or (lkT E y)
    by_cases e : t.1 = y
    · rw [if_pos e, if_pos e]; rfl
    · rw [if_neg e, if_neg e, ih]
theorem lkT_put (D : Tms) (z : Str) (c : Int) (y : Str) : lkT (putT D z c) y = if y = z then some c else lkT D y := by
  have h := dkI_val y (putT D z c)
  rw [← dkI_put, valV_put] at h
  by_cases e : y = z
  · rw [if_pos (by rw [e])] at h
    rw [if_pos e]
    cases g : lkT (putT D z c) y with
    | none => rw [g] at h; cases h
    | some d => rw [g] at h; injection h with h; injection h with h; rw [h]
  · rw [if_neg (fun g => e (Sum.inr.inj g)), dkI_val] at h
    rw [if_neg e]
    cases g : lkT (putT D z c) y with
    | none => rw [g] at h; cases g2 : lkT D y with | none => rfl | some d => rw [g2] at h; cases h
    | some d => rw [g] at h; cases g2 : lkT D y with | none => rw [g2] at h; cases h | some d2 => rw [g2] at h; injection h with h; injection h with h; rw [h]
theorem nm_put (D : Tms) (z : Str) (c : Int) : nmT (putT D z c) = if z ∈ nmT D then nmT D else nmT D ++ [z] := by
  unfold putT
  by_cases h : z ∈ nmT D
  · rw [if_pos (lkT_is.mpr h), if_pos h]
    unfold nmT
    rw [List.map_map]
    refine List.map_congr_left fun t _ => ?_
    show (if t.1 = z then (t.1, c) else t).1 = t.1
    split <;> rfl
  · rw [if_neg (fun g => h (lkT_is.mp g)), if_neg h]
    unfold nmT
    rw [List.map_append]; rfl
theorem nd_put {D : Tms} (nd : (nmT D).Nodup) (z : Str) (c : Int) : (nmT (putT D z c)).Nodup := by
  rw [nm_put]
  split
  · exact nd
  · rename_i h
    refine List.pairwise_append.mpr ⟨nd, List.pairwise_singleton _ _, fun a ha b hb => ?_⟩
    rw [List.mem_singleton.mp hb]
    exact fun e => h (e ▸ ha)
theorem put_len (D : Tms) (z : Str) (c : Int) : (putT D z c).length ≤ D.length + 1 := by
  unfold putT
  split
  · rw [List.length_map]; omega
  · rw [List.length_append]; exact Nat.le_refl _
theorem merge_dkI {D : Tms} (nd : (nmT D).Nodup) : mergeK [] (dkI D) = dkI D := by
  have gen : ∀ (E A : Tms), (nmT (A ++ E)).Nodup → mergeK (dkI A) (dkI E) = dkI (A ++ E) := fun E => by
    induction E with
    | nil => intro A _; rw [List.append_nil]; rfl
    | cons t E ih =>
      intro A nd
      have hn : t.1 ∉ nmT A := fun h => by
        unfold nmT at nd
        rw [List.map_append] at nd
        exact (List.pairwise_append.mp nd).2.2 t.1 h t.1 (List.mem_cons_self ..) rfl
      show mergeK (putK (dkI A) (.inr t.1) (.int t.2)) (dkI E) = _
      rw [dkI_put]
      have ep : putT A t.1 t.2 = A ++ [t] := by
        unfold putT
        rw [if_neg fun g => hn (lkT_is.mp g)]
      rw [ep, ih (A ++ [t]) (by rw [List.append_assoc]; exact nd), List.append_assoc]; rfl
  exact gen D [] nd
end S
-- deps: Fmm Cols
/-! ## terms: added, multiplied, read step by step -/
namespace S
open PySem PySem.Spec PyProof.Rows L2
theorem cols_atF {K : Frag} {H : Hp} : ∀ {ys : List V} {cs : List Col} {i : Nat} {y : V}, Cols K H ys cs → ys[i]? = some y → ∃ c, cs[i]? = some c ∧ ColT K H c y
  | _, _, i, _, .nil, h => by simp at h
  | _, _, 0, _, .cons h _, e => by
    rw [List.getElem?_cons_zero] at e
    cases e
    exact ⟨_, rfl, h⟩
  | _, _, i + 1, _, .cons _ t, e => by
    rw [List.getElem?_cons_succ] at e
    obtain ⟨x, hx, hp⟩ := cols_atF t e
    exact ⟨x, by rw [List.getElem?_cons_succ]; exact hx, hp⟩
theorem old_none {H H' : Hp} {a : Addr} (e : Same H H') (n : H' a = none) : H a = none := by
  cases h : H a with
  | none => rfl
  | some o => rw [e _ _ h] at n; cases n
theorem nodup_takeF {α : Type} {L : List α} {i : Nat} {x : α} (h : L.Nodup) (hx : L[i]? = some x) : x ∉ L.take i := fun hm => by
  obtain ⟨j, hj⟩ := List.mem_iff_getElem?.mp hm
  have hjl : j < i := by have := (List.getElem?_eq_some_iff.mp hj).1; rw [List.length_take] at this; omega
  rw [List.getElem?_take_of_lt hjl] at hj
  obtain ⟨l1, g1⟩ := List.getElem?_eq_some_iff.mp hj
  obtain ⟨l2, g2⟩ := List.getElem?_eq_some_iff.mp hx
  exact List.pairwise_iff_getElem.mp h j i l1 l2 hjl (g1.trans g2.symm)
theorem nmT_take (T : Tms) (i : Nat) : nmT (T.take i) = (nmT T).take i := List.map_take
theorem take_fresh {T : Tms} {i : Nat} {t : Col} (nd : (nmT T).Nodup) (h : T[i]? = some t) : t.1 ∉ nmT (T.take i) := by
  rw [nmT_take]
  refine nodup_takeF nd ?_
  unfold nmT
  rw [List.getElem?_map, h]; rfl
theorem lkT_take1 {T : Tms} {i : Nat} {t : Col} (nd : (nmT T).Nodup) (h : T[i]? = some t) (z : Str) : lkT (T.take (i + 1)) z = if z = t.1 then some t.2 else lkT (T.take i) z := by
  rw [List.take_add_one, h]
  show lkT (T.take i ++ [t]) z = _
  rw [lkT_app]
  by_cases e : z = t.1
  · rw [if_pos e, e, lkT_none (take_fresh nd h)]
    show (if t.1 = t.1 then some t.2 else none) = _
    rw [if_pos rfl]
  · rw [if_neg e]
    have : lkT [t] z = none := by
      show (if t.1 = z then some t.2 else none) = none
      rw [if_neg fun g => e g.symm]
    rw [this, Option.or_none]
def addL (a : Option Int) (n : Int) (b : Option Int) : Option Int := match a, b with
  | none, none => none
  | a, b => some (a.getD 0 + n * b.getD 0)
theorem addL_none (a : Option Int) (n : Int) : addL a n none = a := by
  cases a with
  | none => rfl
  | some x => show some (x + n * 0) = some x; rw [Int.mul_zero, Int.add_zero]
theorem addL_some (a : Option Int) (n c : Int) : addL a n (some c) = some (a.getD 0 + n * c) := by cases a <;> rfl
theorem add_step {T U D : Tms} {i : Nat} {n : Int} {t : Col} (nd : (nmT U).Nodup) (h : U[i]? = some t) (ih : ∀ s, lkT D s = addL (lkT T s) n (lkT (U.take i) s)) :
    ∀ s, lkT (putT D t.1 ((lkT D t.1).getD 0 + n * t.2)) s = addL (lkT T s) n (lkT (U.take (i + 1)) s) := fun s => by
  rw [lkT_put, lkT_take1 nd h]
  by_cases e : s = t.1
  · rw [if_pos e, if_pos e, e, ih, lkT_none (take_fresh nd h), addL_none, addL_some]
  · rw [if_neg e, if_neg e, ih]
/-- all coefficients times a number -/
def mulT (T : Tms) (k : Int) : Tms := T.map fun t => (t.1, t.2 * k)
theorem nm_mul (T : Tms) (k : Int) : nmT (mulT T k) = nmT T := by
  unfold nmT mulT
  rw [List.map_map]; rfl
theorem lk_mul (k : Int) (z : Str) : ∀ T : Tms, lkT (mulT T k) z = (lkT T z).map fun c => c * k
  | [] => rfl
  | t :: T => by
    have ih := lk_mul k z T
    show (if t.1 = z then some (t.2 * k) else lkT (mulT T k) z) = (if t.1 = z then some t.2 else lkT T z).map _
    by_cases e : t.1 = z
    · rw [if_pos e, if_pos e]; rfl
    · rw [if_neg e, if_neg e, ih]
theorem so_mul {T : Tms} (h : SoT T) (k : Int) : SoT (mulT T k) := ⟨by rw [nm_mul]; exact h.nd, by rw [nm_mul]; exact h.st⟩
theorem mul_len (T : Tms) (k : Int) : (mulT T k).length = T.length := List.length_map _
theorem put_mul {T : Tms} {i : Nat} {t : Col} (nd : (nmT T).Nodup) (h : T[i]? = some t) (k : Int) : putT (mulT (T.take i) k) t.1 (t.2 * k) = mulT (T.take (i + 1)) k := by
  unfold putT
  rw [if_neg (fun g => take_fresh nd h (by have := lkT_is.mp g; rw [nm_mul] at this; exact this))]
  unfold mulT
  rw [List.take_add_one, h, List.map_append]; rfl
theorem mulT_one (T : Tms) : mulT T 1 = T := by
  unfold mulT
  have : (fun t : Col => (t.1, t.2 * 1)) = id := funext fun t => by rw [Int.mul_one]; rfl
  rw [this, List.map_id]
/-- coefficients of at most a million in size -/
def smT (D : Tms) : Prop := ∀ t ∈ D, -(10 ^ 6) ≤ t.2 ∧ t.2 ≤ 10 ^ 6
theorem smT.lk {D : Tms} (h : smT D) {z : Str} {c : Int} (e : lkT D z = some c) : -(10 ^ 6) ≤ c ∧ c ≤ 10 ^ 6 := h _ (lkT_some e)
theorem smT.big {D : Tms} (h : smT D) : ∀ t ∈ D, -(2 ^ 64) < t.2 ∧ t.2 < 2 ^ 64 := fun t ht => by have := h t ht; omega
theorem smT.congr {T D : Tms} (h : smT D) (nT : (nmT T).Nodup) (e : ∀ z, lkT T z = lkT D z) : smT T := fun t ht => h.lk (e t.1 ▸ lkT_mem nT ht)
theorem big_sub {T U W : Tms} (h : smT T) (g : smT U) (nW : (nmT W).Nodup) (e : ∀ s, lkT W s = addL (lkT T s) (-1) (lkT U s)) : ∀ t ∈ W, -(2 ^ 64) < t.2 ∧ t.2 < 2 ^ 64 := fun t ht => by
  have ht := lkT_mem nW ht
  rw [e] at ht
  cases e1 : lkT T t.1 with
  | none =>
    cases e2 : lkT U t.1 with
    | none => rw [e1, e2] at ht; cases ht
    | some y =>
      rw [e1, e2] at ht
      have ht : 0 + -1 * y = t.2 := Option.some.inj ht
      have := g.lk e2
      omega
  | some x =>
    have b1 := h.lk e1
    cases e2 : lkT U t.1 with
    | none =>
      rw [e1, e2] at ht
      have ht : x + -1 * 0 = t.2 := Option.some.inj ht
      omega
    | some y =>
      rw [e1, e2] at ht
      have ht : x + -1 * y = t.2 := Option.some.inj ht
      have := g.lk e2
      omega
theorem sm_neg {T : Tms} (h : smT T) : smT (mulT T (-1)) := fun t ht => by
  obtain ⟨u, hu, rfl⟩ := List.mem_map.mp ht
  have := h u hu
  show -(10 ^ 6) ≤ u.2 * -1 ∧ u.2 * -1 ≤ 10 ^ 6
  omega
end S
-- deps: Cols Fm2
/-! ## steps of a recipe for a question, as tuples on the heap -/
namespace S
open PySem PySem.Spec PyProof.Rows L2
inductive Stp where
  | and | or | not | sure | twice
  | prs (z : Str)
  | bit (z : Str) (p : Int)
  | atm (T : Tms) (b : Int)
/-- the step at a; a list of its own was not there at H0 -/
def StA (K : Frag) (H0 H : Hp) (a : Addr) : Stp → Prop
  | .and => SqT K H a [.str "and"]
  | .or => SqT K H a [.str "or"]
  | .not => SqT K H a [.str "not"]
  | .sure => SqT K H a [.str "sure"]
  | .twice => SqT K H a [.str "twice"]
  | .prs z => SqT K H a [.str "present", .str z]
  | .bit z p => SqT K H a [.str "bit", .str z, .int p]
  | .atm T b => ∃ l ys, SqT K H a [.str "atmost", .ref l, .int b] ∧ H0 l = none ∧ H l = some (.lst ys) ∧ Cols K H ys T
/-- a step that is a question without parts, over the names L -/
def Stp.leaf (L : List Str) : Stp → Prop
  | .prs z => z ∈ L
  | .bit z p => z ∈ L ∧ 0 ≤ p ∧ p ≤ 1000
  | .atm T _ => (nmT T).Nodup ∧ (∀ z ∈ nmT T, z ∈ L) ∧ ∀ t ∈ T, -4 ≤ t.2 ∧ t.2 ≤ 4
  | _ => False
theorem StA.same {K : Frag} {H0 H H' : Hp} {a : Addr} {s : Stp} (h : StA K H0 H a s) (e : Same H H') : StA K H0 H' a s := by
  cases s <;> first | exact Same.tup e h | (obtain ⟨l, ys, h1, h0, h2, h3⟩ := h; exact ⟨l, ys, Same.tup e h1, h0, e _ _ h2, h3.same e⟩)
/-- a store on a list that was there -/
theorem StA.x {K : Frag} {H0 H H' : Hp} {a st : Addr} {s : Stp} {l0 : List V} {o : HO} (h : StA K H0 H a s) (e : SameX st H H') (hst : H st = some (.lst l0)) (h0 : H0 st = some o) : StA K H0 H' a s := by
  cases s <;> first | exact e.tup h hst | (obtain ⟨l, ys, h1, hl, h2, h3⟩ := h; exact ⟨l, ys, e.tup h1 hst, hl, e _ _ h2 (Ne.symm (ne_of_none h0 hl)), h3.x e hst⟩)
theorem StA.older {K : Frag} {H0 H1 H : Hp} {a : Addr} {s : Stp} (h : StA K H1 H a s) (e : ∀ l, H1 l = none → H0 l = none) : StA K H0 H a s := by
  cases s <;> first | exact h | (obtain ⟨l, ys, h1, hl, h2⟩ := h; exact ⟨l, ys, h1, e l hl, h2⟩)
end S
-- deps: Fmm
/-! ## rows: dicts of a name and a number or None -/
namespace S
open PySem PySem.Spec PyProof.Rows L2
def vRow (v : Option Int) : V := match v with
  | none => .non
  | some i => .int i
abbrev Row : Type := List (Str × Option Int)
def lkR : Row → Str → Option (Option Int)
  | [], _ => none
  | t :: T, z => if t.1 = z then some t.2 else lkR T z
def dkR (D : Row) : List (Key × V) := D.map fun t => (.inr t.1, vRow t.2)
theorem dkR_val (z : Str) : ∀ D : Row, valV (dkR D) (.inr z) = (lkR D z).map vRow
  | [] => rfl
  | t :: D => by
    have ih := dkR_val z D
    show valV (((Sum.inr t.1 : Key), vRow t.2) :: dkR D) (.inr z) = (if t.1 = z then some t.2 else lkR D z).map vRow
    by_cases e : t.1 = z
    · rw [if_pos e, valV_pos (p := ((Sum.inr t.1 : Key), vRow t.2)) (by rw [← e])]; rfl
    · rw [if_neg e, valV_neg (p := ((Sum.inr t.1 : Key), vRow t.2)) (fun h => e (Sum.inr.inj h)), ih]
/-- the value of a form in a row -/
def valT (R : Row) : Tms → Int → Option Int
  | [], w => some w
  | t :: T, w => match lkR R t.1 with
    | some (some c) => valT R T (w + t.2 * c)
    | _ => none
theorem valT_some (R : Row) (c : Int) : ∀ (T : Tms) (w v : Int), valT R T w = some v → valT R T (w + c) = some (v + c)
  | [], w, v, h => by cases h; rfl
  | t :: T, w, v, h => by
    show (match lkR R t.1 with | some (some c') => valT R T (w + c + t.2 * c') | _ => none) = _
    have h : (match lkR R t.1 with | some (some c') => valT R T (w + t.2 * c') | _ => none) = some v := h
    cases e : lkR R t.1 with
    | none => rw [e] at h; cases h
    | some o => cases o with
      | none => rw [e] at h; cases h
      | some x =>
        rw [e] at h
        show valT R T (w + c + t.2 * x) = _
        rw [show w + c + t.2 * x = w + t.2 * x + c by omega]
        exact valT_some R c T _ _ h
/-- the order of the terms does not matter -/
theorem valT_perm {R : Row} {T U : Tms} (h : T.Perm U) : ∀ w, valT R T w = valT R U w := by
  induction h with
  | nil => intro w; rfl
  | cons t _ ih =>
    intro w
    show (match lkR R t.1 with | some (some c) => valT R _ (w + t.2 * c) | _ => none) = (match lkR R t.1 with | some (some c) => valT R _ (w + t.2 * c) | _ => none)
    cases e : lkR R t.1 with
    | none => rfl
    | some o => cases o with
      | none => rfl
      | some x => exact ih _
  | swap a b T =>
    intro w
    show (match lkR R b.1 with | some (some c) => (match lkR R a.1 with | some (some c') => valT R T (w + b.2 * c + a.2 * c') | _ => none) | _ => none) = (match lkR R a.1 with | some (some c') => (match lkR R b.1 with | some (some c) => valT R T (w + a.2 * c' + b.2 * c) | _ => none) | _ => none)
    cases lkR R a.1 with
    | none => cases lkR R b.1 with
      | none => rfl
      | some o => cases o <;> rfl
    | some o => cases o with
      | none => cases lkR R b.1 with
        | none => rfl
        | some o => cases o <;> rfl
      | some x => cases lkR R b.1 with
        | none => rfl
        | some o => cases o with
          | none => rfl
          | some y =>
            show valT R T _ = valT R T _
            congr 1; omega
  | trans _ _ h1 h2 => intro w; exact (h1 w).trans (h2 w)
end S
-- deps: D0 D1
/-! ## a bitmap on the heap -/
namespace S
open PySem PySem.Spec PyProof.Rows L2
theorem Same.slt {H H' : Hp} {a C dx : Addr} {vs : List (Option V)} (e : Same H H') (h : SlX.Slt H a C dx vs) : SlX.Slt H' a C dx vs := by
  rcases h with ⟨h, z⟩ | ⟨h, z⟩
  · exact .inl ⟨e _ _ h, z⟩
  · exact .inr ⟨e _ _ h, e _ _ z⟩
theorem slO_lst {a C dx : Addr} {vs : List (Option V)} {xs : List V} : SlX.SlO a C dx vs ≠ .lst xs := fun z => by unfold SlX.SlO at z; cases z
theorem slO_tup {a C dx : Addr} {vs : List (Option V)} {xs : List V} : SlX.SlO a C dx vs ≠ .tup xs := fun z => by unfold SlX.SlO at z; cases z
theorem slO_frz {a C dx : Addr} {vs : List (Option V)} {o : Obj} {u : HO} : SlX.SlO a C dx vs ≠ .frz o u := fun z => by unfold SlX.SlO at z; cases z
theorem SameX.slt {st : Addr} {H H' : Hp} {a C dx : Addr} {vs : List (Option V)} {l : List V} (e : SameX st H H') (hst : H st = some (.lst l)) (h : SlX.Slt H a C dx vs) : SlX.Slt H' a C dx vs := by
  rcases h with ⟨h, z⟩ | ⟨h, z⟩
  · exact .inl ⟨e _ _ h (ne_of h hst (fun y => by cases y)), z⟩
  · exact .inr ⟨e _ _ h (ne_of h hst slO_lst), e _ _ z (ne_of z hst (fun y => by cases y))⟩
/-- all but two objects stays -/
def SameO (x y : Addr) (H H' : Hp) : Prop := ∀ b o, H b = some o → b ≠ x → b ≠ y → H' b = some o
theorem Same.o {x y : Addr} {H H' : Hp} (e : Same H H') : SameO x y H H' := fun b o h _ _ => e b o h
theorem SameO.trans {x y : Addr} {H H1 H2 : Hp} (a : SameO x y H H1) (b : SameO x y H1 H2) : SameO x y H H2 := fun c o h n m => b c o (a c o h n m) n m
theorem SameO.slH {x y C : Addr} {H : Hp} {vs : List (Option V)} : SameO x y H (SlX.slH H x C y vs) := fun b o h n m => by rw [SlX.slH_ne n m]; exact h
theorem SameO.tup {K : Frag} {x y a C : Addr} {H H' : Hp} {xs : List V} {vs : List (Option V)} (e : SameO x y H H') (hx : SlX.Slt H x C y vs) (hy : ∀ o, H y = some o → (∀ ys, o ≠ .tup ys) ∧ ∀ u w, o ≠ .frz u w) (h : SqT K H a xs) : SqT K H' a xs := by
  have nx : ∀ o, H a = some o → (o = .tup xs ∨ ∃ u, o = .frz u (.tup xs)) → a ≠ x ∧ a ≠ y := fun o ho q => by
    refine ⟨fun z => ?_, fun z => ?_⟩
    · subst z
      rcases hx with ⟨h1, _⟩ | ⟨h1, _⟩
      · rw [ho] at h1
        rcases q with q | ⟨u, q⟩ <;> · rw [q] at h1; cases h1
      · rw [ho] at h1
        have h2 := Option.some.inj h1
        rcases q with q | ⟨u, q⟩
        · exact slO_tup (h2.symm.trans q)
        · exact slO_frz (h2.symm.trans q)
    · subst z
      rcases q with q | ⟨u, q⟩
      · exact (hy _ ho).1 _ q
      · exact (hy _ ho).2 _ _ q
  rcases h with (h | ⟨o, h⟩) | h
  · obtain ⟨n, m⟩ := nx _ h (.inl rfl)
    exact .inl (.inl (e _ _ h n m))
  · obtain ⟨n, m⟩ := nx _ h (.inr ⟨_, rfl⟩)
    exact .inl (.inr ⟨o, e _ _ h n m⟩)
  · exact .inr h
abbrev BmF (K : Frag) : Prop := CF K "Bitmap" ["ends", "size"]
/-- a bitmap: its size, its ends -/
def Bm (K : Frag) (H : Hp) (a : Addr) (n : Int) (es : List Int) : Prop := BmF K ∧ 0 ≤ n ∧ Ends n es ∧ ∃ dx p, SlX.Slt H a (He.ga K "Bitmap") dx [some (.ref p), some (.int n)] ∧ SqT K H p (es.map V.int)
theorem Bm.same {K : Frag} {H H' : Hp} {a : Addr} {n : Int} {es : List Int} (h : Bm K H a n es) (e : Same H H') : Bm K H' a n es := by
  obtain ⟨c, h0, hE, dx, p, h1, h2⟩ := h
  exact ⟨c, h0, hE, dx, p, Same.slt e h1, Same.tup e h2⟩
theorem Bm.x {K : Frag} {st : Addr} {H H' : Hp} {a : Addr} {n : Int} {es : List Int} {l : List V} (h : Bm K H a n es) (e : SameX st H H') (hst : H st = some (.lst l)) : Bm K H' a n es := by
  obtain ⟨c, h0, hE, dx, p, h1, h2⟩ := h
  exact ⟨c, h0, hE, dx, p, e.slt hst h1, e.tup h2 hst⟩
end S
namespace S
open PySem PySem.Spec PyProof.Rows L2
def t_Formdd_initdd_1 (K : Frag) (E : XK) : TS :=
    dSto K "offset" (dVar 2) (dVar 0)
def t_Formdd_initdd (K : Frag) (E : XK) : TS :=
    tSeq (dSto K "terms" (tCB (cTupleF K) (tCons (dLc (iSeq K (tCB (cSortedD K) (tCons (dVar 1) (tNil)))) (gName 3) (tYes) (dTup K (tCons (dVar 3) (tCons (tOp (oIxD K) (dVar 1) (dVar 3)) (tNil)))) [3]) (tNil))) (dVar 0))
    (stop (t_Formdd_initdd_1 K E))
end S
-- fn: Form.__init__
-- law: k38
-- dict: terms
-- sortD: yes
-- tupF: yes
-- deps: Fmm Cols Bm D0 D1
namespace S
open PySem PySem.Spec PyProof.Rows L2
abbrev FoF (K : Frag) : Prop := CF K "Form" ["offset", "terms"]
/-- a form: its terms, names ascending, and its offset -/
def Fo (K : Frag) (H : Hp) (x : Addr) (T : Tms) (o : Int) : Prop := FoF K ∧ SoT T ∧ T.length ≤ 60 ∧ ∃ dx u ys, SlX.Slt H x (He.ga K "Form") dx [some (.int o), some (.ref u)] ∧ TupF H u ys ∧ Cols K H ys T
theorem Fo.same {K : Frag} {H H' : Hp} {x : Addr} {T : Tms} {o : Int} (h : Fo K H x T o) (e : Same H H') : Fo K H' x T o := by
  obtain ⟨c, s, l, dx, u, ys, h1, h2, h3⟩ := h
  exact ⟨c, s, l, dx, u, ys, Same.slt e h1, h2.same e, h3.same e⟩
theorem Fo.x {K : Frag} {H H' : Hp} {x st : Addr} {T : Tms} {o : Int} {l : List V} (h : Fo K H x T o) (e : SameX st H H') (hst : H st = some (.lst l)) : Fo K H' x T o := by
  obtain ⟨c, s, ll, dx, u, ys, h1, h2, h3⟩ := h
  exact ⟨c, s, ll, dx, u, ys, e.slt hst h1, h2.x e (fun o u z => by rw [hst] at z; cases z), h3.x e hst⟩
theorem Cols.o {K : Frag} {H H' : Hp} {x dx C : Addr} {vs : List (Option V)} {ys : List V} {cs : List Col} (h : Cols K H ys cs) (e : SameO x dx H H') (hx : SlX.Slt H x C dx vs) (hy : ∀ o, H dx = some o → (∀ ys, o ≠ .tup ys) ∧ ∀ u w, o ≠ .frz u w) : Cols K H' ys cs := Paired.mapP h fun _ _ ⟨a, h1, h2⟩ => ⟨a, h1, e.tup hx hy h2⟩
theorem TupF.o {H H' : Hp} {x dx C a : Addr} {vs : List (Option V)} {xs : List V} (h : TupF H a xs) (e : SameO x dx H H') (hx : SlX.Slt H x C dx vs) (hy : ∀ o, H dx = some o → (∀ ys, o ≠ .tup ys) ∧ ∀ u w, o ≠ .frz u w) : TupF H' a xs := by
  obtain ⟨o, h1, h2⟩ := h
  refine ⟨o, e _ _ h1 (fun z => ?_) (fun z => (hy _ (z ▸ h1)).2 _ _ rfl), h2⟩
  subst z
  rcases hx with ⟨h, _⟩ | ⟨h, _⟩
  · rw [h1] at h; cases h
  · rw [h1] at h; exact SlX_frz (Option.some.inj h).symm
where SlX_frz {a C dx : Addr} {vs : List (Option V)} {o : Obj} {u : HO} : SlX.SlO a C dx vs ≠ .frz o u := slO_frz
def sp_Formdd_initdd (K : Frag) : Sp := fun vs H Q _ => ∃ (H0 : Hp) (x dx d : Addr) (D : Tms) (o : Int), vs = [.ref x, .ref d, .int o] ∧ FoF K ∧ H0 x = none ∧ H0 dx = none ∧ Same H0 H ∧ H x = some (.ins (He.ga K "Form") dx []) ∧ H dx = some (.own x) ∧ dx ≠ x ∧
  L2.Rd H0 d (.dK (dkI D)) ∧ (nmT D).Nodup ∧ D.length ≤ 60 ∧ ∀ T H', Same H0 H' → SoT T → (∀ z, lkT T z = lkT D z) → Fo K H' x T o → Q .non H'
theorem Rd.sm {H H' : Hp} {a : Addr} {u : HO} (h : L2.Rd H a u) (e : Same H H') : L2.Rd H' a u := h.elim (fun h => .inl (e _ _ h)) fun ⟨o, h⟩ => .inr ⟨o, e _ _ h⟩
theorem cols_snocF {K : Frag} {H : Hp} {y : V} {c : Col} : ∀ {ys : List V} {cs : List Col}, Cols K H ys cs → ColT K H c y → Cols K H (ys ++ [y]) (cs ++ [c])
  | _, _, .nil, h => .cons h .nil
  | _, _, .cons a t, h => .cons a (cols_snocF t h)
theorem mget1 {α : Type} {g : α → V} {ns : List α} {i : Nat} {x : V} (h : (ns.map g)[i]? = some x) : ∃ y, ns[i]? = some y ∧ x = g y := by
  rw [List.getElem?_map] at h
  cases e : ns[i]? with
  | none => rw [e] at h; cases h
  | some y => rw [e] at h; exact ⟨y, rfl, (Option.some.inj h).symm⟩
def trmT (D : Tms) (L : List Str) : Tms := L.map fun z => (z, (lkT D z).getD 0)
theorem trmT_nm (D : Tms) (L : List Str) : nmT (trmT D L) = L := by
  unfold nmT trmT
  rw [List.map_map]
  exact List.map_id' L
theorem trmT_lk (D : Tms) {z : Str} : ∀ L : List Str, lkT (trmT D L) z = if z ∈ L then some ((lkT D z).getD 0) else none
  | [] => rfl
  | y :: L => by
    have ih := trmT_lk D (z := z) L
    show (if y = z then some ((lkT D y).getD 0) else lkT (trmT D L) z) = _
    by_cases e : y = z
    · rw [if_pos e, e, if_pos (List.mem_cons_self ..)]
    · rw [if_neg e, ih]
      by_cases h : z ∈ L
      · rw [if_pos h, if_pos (List.mem_cons_of_mem _ h)]
      · rw [if_neg h, if_neg (fun g => (List.mem_cons.mp g).elim (fun g => e g.symm) h)]
theorem pure_Formdd_initdd {K : Frag} (vs : List V) (H : Hp) (Q : VK) (E : XK) (h : sp_Formdd_initdd K vs H Q E) : t_Formdd_initdd K E { nx := fun _ H' => Q .non H', rt := Q } (start ["self", "terms", "offset", "name"] vs) H := by
  obtain ⟨H0, x, dx, d, D, o, rfl, cf, nx, ndx, e0, hx, hdx, hne, hd, nd, lD, q⟩ := h
  have hdH := Rd.sm hd e0
  walk_at "gx"
  refine SrtD.d hdH (dkI_keys D) (by unfold nmT; rw [List.length_map]; omega) fun ys l hp hs nl => ?_
  have e1 := same_new (o := .lst (ys.map V.str)) nl
  have hl : upd H l (.lst (ys.map V.str)) l = some (.lst (ys.map V.str)) := upd_same
  have hd1 := Rd.sm hdH e1
  have e01 := e0.trans e1
  have hx1 := e1 _ _ hx
  have hdx1 := e1 _ _ hdx
  generalize upd H l (.lst (ys.map V.str)) = H1 at *
  have lys : ys.length ≤ 60 := by have := hp.length_eq; unfold nmT at this; rw [List.length_map] at this; omega
  have hin : ∀ z ∈ ys, ∃ c, lkT D z = some c := fun z hz => Option.isSome_iff_exists.mp (lkT_is.mpr (hp.mem_iff.mp hz))
  refine lc_seq (K := K) (.inl (SqL.of hl)) fun A hA => ⟨fun i H' => ∃ zs, H' A = some (.lst zs) ∧ Cols K H' zs (trmT D (ys.take i)) ∧ Same H1 H', ⟨[], upd_same, by rw [List.take_zero]; exact .nil, same_new hA⟩, fun i H' _ ⟨_, _, _, e⟩ ys => ⟨e.seq, Same.tup e⟩, ?_, fun H2 ⟨zs, h1, h2, e2⟩ => ?_⟩
  · rintro i y H2 hi ⟨zs, h1, h2, e2⟩
    obtain ⟨z, hz, rfl⟩ := mget1 hi
    obtain ⟨c, hc⟩ := hin z (List.mem_of_getElem? hz)
    have tk : ys.take (i + 1) = ys.take i ++ [z] := by rw [List.take_add_one, hz]; rfl
    refine ⟨rfl, ?_⟩
    refine DG.s (Rd.sm hd1 e2) (by rw [dkI_val, hc]; rfl) ?_
    refine Need.mk (by rw [sizeLine_eq]; show 2 ≤ 16777216; decide) ?_
    refine ⟨fun t H3 e3 ht => ⟨zs, e3 _ _ h1, ?_, zs ++ [.ref t], upd_same, ?_, ?_⟩⟩
    · have l1 := Paired.length h2
      unfold trmT at l1
      rw [List.length_map, List.length_take] at l1
      rw [sizeLine_eq]
      omega
    · have ex : SameX A H3 (L2.upd H3 A (.lst (zs ++ [.ref t]))) := SameX.upd
      have et : trmT D (ys.take (i + 1)) = trmT D (ys.take i) ++ [(z, c)] := by
        unfold trmT
        rw [tk, List.map_append]
        show _ ++ [(z, (lkT D z).getD 0)] = _
        rw [hc]; rfl
      rw [et]
      exact cols_snocF ((h2.same e3).x ex (e3 _ _ h1)) ⟨t, rfl, ex.tup ht (e3 _ _ h1)⟩
    · exact Same.mut (e2.trans e3) hA
  · rw [List.length_map, List.take_length] at h2
    dsimp only [tNil]
    refine LsQ.of h1 ⟨fun u H3 e3 nu hu => ?_⟩
    have e13 := e2.trans e3
    have hC := h2.same e3
    have s0 : SlX.Slt H3 x (He.ga K "Form") dx [] := .inl ⟨e13 _ _ hx1, rfl⟩
    have hy0 : ∀ o, H3 dx = some o → (∀ ys, o ≠ .tup ys) ∧ ∀ u w, o ≠ .frz u w := fun o ho => by
      rw [e13 _ _ hdx1] at ho
      cases ho
      exact ⟨fun _ z => (nomatch z), fun _ _ z => (nomatch z)⟩
    walk_at "gx"
    refine Sto.sl cf s0 (i := 1) rfl ?_
    have o1 : SameO x dx H3 (SlX.slH H3 x (He.ga K "Form") dx (SlX.putS 1 (.ref u) [])) := SameO.slH
    have hu1 := hu.o o1 s0 hy0
    have hC1 := hC.o o1 s0 hy0
    have s1 : SlX.Slt (SlX.slH H3 x (He.ga K "Form") dx (SlX.putS 1 (.ref u) [])) x (He.ga K "Form") dx [none, some (.ref u)] := SlX.slH_slt hne
    have hd2 : SlX.slH H3 x (He.ga K "Form") dx (SlX.putS 1 (.ref u) []) dx = some (.xd []) := by unfold SlX.slH; rw [upd_ne hne, upd_same]
    have hy1 : ∀ o, SlX.slH H3 x (He.ga K "Form") dx (SlX.putS 1 (.ref u) []) dx = some o → (∀ ys, o ≠ .tup ys) ∧ ∀ u w, o ≠ .frz u w := fun o ho => by
      rw [hd2] at ho
      cases ho
      exact ⟨fun _ z => (nomatch z), fun _ _ z => (nomatch z)⟩
    walk_at "gx"
    refine Sto.sl cf s1 (i := 0) rfl ?_
    have hT : SoT (trmT D ys) := ⟨by rw [trmT_nm]; exact hp.nodup_iff.mpr nd, by rw [trmT_nm]; exact sorted_pw _ hs⟩
    refine q (trmT D ys) _ ?_ hT (fun z => ?_) ⟨cf, hT, by unfold trmT; rw [List.length_map]; exact lys, dx, u, zs, SlX.slH_slt hne, hu1.o SameO.slH s1 hy1, hC1.o SameO.slH s1 hy1⟩
    · intro b w hb
      exact ((o1.trans SameO.slH) b w ((e01.trans e13) _ _ hb) (ne_of_none hb nx) (ne_of_none hb ndx))
    · rw [trmT_lk]
      by_cases h : z ∈ ys
      · obtain ⟨c, hc⟩ := hin z h
        rw [if_pos h, hc]; rfl
      · rw [if_neg h]
        exact (lkT_none fun g => h (hp.mem_iff.mpr g)).symm
/-- a form is made -/
theorem mk_form {K : Frag} {H : Hp} {d : Addr} {D : Tms} {o : Int} {R : Addr → Hp → Prop} {E : XK} (cf : FoF K) (hd : L2.Rd H d (.dK (dkI D))) (nd : (nmT D).Nodup) (lD : D.length ≤ 60) (good : ∀ T x H', Same H H' → H x = none → SoT T → (∀ z, lkT T z = lkT D z) → Fo K H' x T o → R x H') :
    NewI K H "Form" fun x H2 => sp_Formdd_initdd K [.ref x, .ref d, .int o] H2 (fun v H3 => v = .non ∧ R x H3) E := by
  refine ⟨fun x dx h1 h2 hne => ?_⟩
  have e : Same H (upd (upd H dx (.own x)) x (.ins (He.ga K "Form") dx [])) := fun b o h => by
    rw [upd_ne (ne_of_none h h1), upd_ne (ne_of_none h h2)]; exact h
  exact ⟨H, x, dx, d, D, o, rfl, cf, h1, h2, e, upd_same, by rw [upd_ne hne, upd_same], hne, hd, nd, lD, fun T H' e' s l hf => ⟨rfl, good T x H' e' h1 s l hf⟩⟩
end S
-- deps: Rw Fm2 CsT Form_init
/-! ## questions: what they ask, how they lie on the heap -/
namespace S
open PySem PySem.Spec PyProof.Rows L2
inductive Qs where
  | atm (T : Tms) (b : Int)
  | prs (z : Str)
  | bit (z : Str) (p : Int)
  | both (q r : Qs)
  | eith (q r : Qs)
  | opp (q : Qs)
  | sure (q : Qs)
def Qs.cls : Qs → Str
  | .atm _ _ => "AtMost"
  | .prs _ => "Present"
  | .bit _ _ => "HasBit"
  | .both _ _ => "Both"
  | .eith _ _ => "Either"
  | .opp _ => "Opposite"
  | .sure _ => "Surely"
def Qs.dep : Qs → Nat
  | .both q r => max q.dep r.dep + 1
  | .eith q r => max q.dep r.dep + 1
  | .opp q => q.dep + 1
  | .sure q => q.dep + 1
  | _ => 1
/-- the names that it asks -/
def Qs.has : Qs → Str → Prop
  | .atm T _, z => z ∈ nmT T
  | .prs y, z => z = y
  | .bit y _, z => z = y
  | .both q r, z => q.has z ∨ r.has z
  | .eith q r, z => q.has z ∨ r.has z
  | .opp q, z => q.has z
  | .sure q, z => q.has z
/-- the places that it asks lie from 0 to 1000 -/
def Qs.plc : Qs → Prop
  | .bit _ p => 0 ≤ p ∧ p ≤ 1000
  | .both q r => q.plc ∧ r.plc
  | .eith q r => q.plc ∧ r.plc
  | .opp q => q.plc
  | .sure q => q.plc
  | _ => True
def rk : Option Bool → Nat
  | none => 1
  | some true => 2
  | some false => 0
def unrk : Nat → Option Bool
  | 0 => some false
  | 1 => none
  | _ => some true
def ansB (q r : Option Bool) : Option Bool := unrk (min (rk q) (rk r))
def ansE (q r : Option Bool) : Option Bool := unrk (max (rk q) (rk r))
def ansO (q : Option Bool) : Option Bool := unrk (2 - rk q)
def ansS (q : Option Bool) : Option Bool := some (decide (q = some true))
/-- what it answers of a row -/
def ans (R : Row) : Qs → Option Bool
  | .atm T b => (valT R T 0).map fun v => decide (v ≤ b)
  | .prs z => some (match lkR R z with | some (some _) => true | _ => false)
  | .bit z p => (match lkR R z with
    | some (some v) => some (decide ((v / 2 ^ p.toNat) % 2 = 1))
    | _ => none)
  | .both q r => ansB (ans R q) (ans R r)
  | .eith q r => ansE (ans R q) (ans R r)
  | .opp q => ansO (ans R q)
  | .sure q => ansS (ans R q)
def vT : Option Bool → V
  | none => .non
  | some b => .bl b
theorem IsT.o {o : Option Bool} {b : Bool} {k : Bool → Prop} (q : k (decide (o = some b))) : IsT (vT o) (.bl b) k := by
  rcases o with _ | _ | _
  · exact .non q
  · exact .bl (by cases b <;> exact q)
  · exact .bl (by cases b <;> exact q)
abbrev DFq (K : Frag) (c : Str) (fs : List Str) : Prop := DF K c ["Question"] ("parts" :: fs)
def inC (c : Str) : Prop := c ∈ csT
/-- the question at a -/
def QA (K : Frag) (H : Hp) : Addr → Qs → Prop
  | a, .atm T b => DFq K "AtMost" ["terms", "bound"] ∧ (SoT T ∧ T.length ≤ 60 ∧ ∀ t ∈ T, -(2 ^ 64) < t.2 ∧ t.2 < 2 ^ 64) ∧ inC "AtMost" ∧ ∃ dx p u ys, H a = some (.ins (He.ga K "AtMost") dx [("parts", .ref p), ("terms", .ref u), ("bound", .int b)]) ∧ TupF H u ys ∧ Cols K H ys T
  | a, .prs z => DFq K "Present" ["name"] ∧ inC "Present" ∧ ∃ dx p, H a = some (.ins (He.ga K "Present") dx [("parts", .ref p), ("name", .str z)])
  | a, .bit z i => DFq K "HasBit" ["name", "place"] ∧ inC "HasBit" ∧ ∃ dx p, H a = some (.ins (He.ga K "HasBit") dx [("parts", .ref p), ("name", .str z), ("place", .int i)])
  | a, .both q r => DFq K "Both" ["one", "other"] ∧ inC "Both" ∧ ∃ dx p b c, H a = some (.ins (He.ga K "Both") dx [("parts", .ref p), ("one", .ref b), ("other", .ref c)]) ∧ SqT K H p [.ref b, .ref c] ∧ QA K H b q ∧ QA K H c r
  | a, .eith q r => DFq K "Either" ["one", "other"] ∧ inC "Either" ∧ ∃ dx p b c, H a = some (.ins (He.ga K "Either") dx [("parts", .ref p), ("one", .ref b), ("other", .ref c)]) ∧ SqT K H p [.ref b, .ref c] ∧ QA K H b q ∧ QA K H c r
  | a, .opp q => DFq K "Opposite" ["part"] ∧ inC "Opposite" ∧ ∃ dx p b, H a = some (.ins (He.ga K "Opposite") dx [("parts", .ref p), ("part", .ref b)]) ∧ SqT K H p [.ref b] ∧ QA K H b q
  | a, .sure q => DFq K "Surely" ["part"] ∧ inC "Surely" ∧ ∃ dx p b, H a = some (.ins (He.ga K "Surely") dx [("parts", .ref p), ("part", .ref b)]) ∧ SqT K H p [.ref b] ∧ QA K H b q
theorem QA.same {K : Frag} {H H' : Hp} (e : Same H H') : ∀ {q : Qs} {a : Addr}, QA K H a q → QA K H' a q
  | .atm T b, a, ⟨d, k, c, dx, p, u, ys, h1, h2, h3⟩ => ⟨d, k, c, dx, p, u, ys, e _ _ h1, h2.same e, h3.same e⟩
  | .prs z, a, ⟨d, c, dx, p, h1⟩ => ⟨d, c, dx, p, e _ _ h1⟩
  | .bit z i, a, ⟨d, c, dx, p, h1⟩ => ⟨d, c, dx, p, e _ _ h1⟩
  | .both q r, a, ⟨d, c, dx, p, b, b2, h1, h2, h3, h4⟩ => ⟨d, c, dx, p, b, b2, e _ _ h1, Same.tup e h2, QA.same e h3, QA.same e h4⟩
  | .eith q r, a, ⟨d, c, dx, p, b, b2, h1, h2, h3, h4⟩ => ⟨d, c, dx, p, b, b2, e _ _ h1, Same.tup e h2, QA.same e h3, QA.same e h4⟩
  | .opp q, a, ⟨d, c, dx, p, b, h1, h2, h3⟩ => ⟨d, c, dx, p, b, e _ _ h1, Same.tup e h2, QA.same e h3⟩
  | .sure q, a, ⟨d, c, dx, p, b, h1, h2, h3⟩ => ⟨d, c, dx, p, b, e _ _ h1, Same.tup e h2, QA.same e h3⟩
theorem QA.x {K : Frag} {H H' : Hp} {st : Addr} {l : List V} (e : SameX st H H') (hst : H st = some (.lst l)) : ∀ {q : Qs} {a : Addr}, QA K H a q → QA K H' a q
  | .atm T b, a, ⟨d, k, c, dx, p, u, ys, h1, h2, h3⟩ => ⟨d, k, c, dx, p, u, ys, e _ _ h1 (ne_of h1 hst fun z => by cases z), h2.x e (fun o u z => by rw [hst] at z; cases z), h3.x e hst⟩
  | .prs z, a, ⟨d, c, dx, p, h1⟩ => ⟨d, c, dx, p, e _ _ h1 (ne_of h1 hst fun z => by cases z)⟩
  | .bit z i, a, ⟨d, c, dx, p, h1⟩ => ⟨d, c, dx, p, e _ _ h1 (ne_of h1 hst fun z => by cases z)⟩
  | .both q r, a, ⟨d, c, dx, p, b, b2, h1, h2, h3, h4⟩ => ⟨d, c, dx, p, b, b2, e _ _ h1 (ne_of h1 hst fun z => by cases z), e.tup h2 hst, QA.x e hst h3, QA.x e hst h4⟩
  | .eith q r, a, ⟨d, c, dx, p, b, b2, h1, h2, h3, h4⟩ => ⟨d, c, dx, p, b, b2, e _ _ h1 (ne_of h1 hst fun z => by cases z), e.tup h2 hst, QA.x e hst h3, QA.x e hst h4⟩
  | .opp q, a, ⟨d, c, dx, p, b, h1, h2, h3⟩ => ⟨d, c, dx, p, b, e _ _ h1 (ne_of h1 hst fun z => by cases z), e.tup h2 hst, QA.x e hst h3⟩
  | .sure q, a, ⟨d, c, dx, p, b, h1, h2, h3⟩ => ⟨d, c, dx, p, b, e _ _ h1 (ne_of h1 hst fun z => by cases z), e.tup h2 hst, QA.x e hst h3⟩
/-- truth(row) of a question no deeper than n -/
def sp_truth (K : Frag) (n : Nat) (c : Str) : Sp := fun vs H Q _ => ∃ (a r : Addr) (q : Qs) (R : Row), vs = [.ref a, .ref r] ∧ q.cls = c ∧ q.dep ≤ n ∧ QA K H a q ∧ q.plc ∧ L2.Rd H r (.dK (dkR R)) ∧ (∀ z, q.has z → (lkR R z).isSome) ∧ ∀ H', Same H H' → Q (vT (ans R q)) H'
theorem Qs.pos (q : Qs) : 1 ≤ q.dep := by cases q <;> simp only [Qs.dep] <;> omega
theorem sp_truth_0 {K : Frag} (c : Str) : ∀ vs H Q E, ¬ sp_truth K 0 c vs H Q E := fun vs H Q E ⟨_, _, q, _, _, _, h, _⟩ => by have := q.pos; omega
/-- a part's class has its method -/
theorem QA.dyn {K : Frag} {H : Hp} {a : Addr} {q : Qs} {m : Str} {k : Str → Prop} (h : QA K H a q) (hm : m ∉ [("parts" : Str), "terms", "bound", "name", "place", "one", "other", "part"]) (g : k q.cls) : DynM K H csT m a k := by
  have look : ∀ fs : List (Str × V), (∀ f ∈ fs, f.1 ∈ [("parts" : Str), "terms", "bound", "name", "place", "one", "other", "part"]) → fs.lookup m = none := fun fs hf => by
    induction fs with
    | nil => rfl
    | cons f fs ih =>
      obtain ⟨f1, f2⟩ := f
      rw [List.lookup_cons]
      have : (m == f1) = false := by
        rw [beq_eq_false_iff_ne]
        rintro rfl
        exact hm (hf _ (List.mem_cons_self ..))
      rw [this]
      exact ih fun g hg => hf g (List.mem_cons_of_mem _ hg)
  cases q with
  | atm T b => obtain ⟨d, _, c, dx, p, u, ys, h1, _⟩ := h; exact DynM.of c h1 g (look _ (by simp))
  | prs z => obtain ⟨d, c, dx, p, h1⟩ := h; exact DynM.of c h1 g (look _ (by simp))
  | bit z i => obtain ⟨d, c, dx, p, h1⟩ := h; exact DynM.of c h1 g (look _ (by simp))
  | both q r => obtain ⟨d, c, dx, p, b, b2, h1, _⟩ := h; exact DynM.of c h1 g (look _ (by simp))
  | eith q r => obtain ⟨d, c, dx, p, b, b2, h1, _⟩ := h; exact DynM.of c h1 g (look _ (by simp))
  | opp q => obtain ⟨d, c, dx, p, b, h1, _⟩ := h; exact DynM.of c h1 g (look _ (by simp))
  | sure q => obtain ⟨d, c, dx, p, b, h1, _⟩ := h; exact DynM.of c h1 g (look _ (by simp))
end S
-- deps: Stp Qs
/-! ## recipes: steps upon a stack of questions (its top ahead) -/
namespace S
open PySem PySem.Spec PyProof.Rows L2
/-- terms in the order in which they are stored: a dict's -/
def Stp.qs : Stp → Qs
  | .prs z => .prs z
  | .bit z p => .bit z p
  | .atm T b => .atm T b
  | _ => .prs ""
def Stp.isLeaf : Stp → Bool
  | .prs _ => true
  | .bit _ _ => true
  | .atm _ _ => true
  | _ => false
/-- how many questions lie on the stack -/
def okR : List Stp → Nat → Option Nat
  | [], n => some n
  | .and :: ss, n => if 2 ≤ n then okR ss (n - 1) else none
  | .or :: ss, n => if 2 ≤ n then okR ss (n - 1) else none
  | .not :: ss, n => if 1 ≤ n then okR ss n else none
  | .sure :: ss, n => if 1 ≤ n then okR ss n else none
  | .twice :: ss, n => if 1 ≤ n then okR ss (n + 1) else none
  | .prs _ :: ss, n => okR ss (n + 1)
  | .bit _ _ :: ss, n => okR ss (n + 1)
  | .atm _ _ :: ss, n => okR ss (n + 1)
theorem okR_app : ∀ (ss tt : List Stp) (n : Nat), okR (ss ++ tt) n = (okR ss n).bind (okR tt)
  | [], tt, n => rfl
  | s :: ss, tt, n => by
    cases s <;> simp only [List.cons_append, okR] <;> first | exact okR_app ss tt _ | (split <;> first | exact okR_app ss tt _ | rfl)
/-- steps that make the questions deeper or more -/
def costR : List Stp → Nat
  | [] => 0
  | .and :: ss => costR ss
  | .or :: ss => costR ss
  | _ :: ss => costR ss + 1
theorem costR_app : ∀ ss tt : List Stp, costR (ss ++ tt) = costR ss + costR tt
  | [], tt => (Nat.zero_add _).symm
  | s :: ss, tt => by
    have ih := costR_app ss tt
    cases s <;> simp only [List.cons_append, costR, ih] <;> omega
/-- one step upon the stack -/
def stepQ (lf : Stp → Qs) : Stp → List Qs → List Qs
  | .and, r :: q :: st => .both q r :: st
  | .or, r :: q :: st => .eith q r :: st
  | .not, q :: st => .opp q :: st
  | .sure, q :: st => .sure q :: st
  | .twice, q :: st => q :: q :: st
  | .prs z, st => lf (.prs z) :: st
  | .bit z p, st => lf (.bit z p) :: st
  | .atm T b, st => lf (.atm T b) :: st
  | _, st => st
def runQ (lf : Stp → Qs) : List Stp → List Qs → List Qs
  | [], st => st
  | s :: ss, st => runQ lf ss (stepQ lf s st)
theorem runQ_app (lf : Stp → Qs) : ∀ (ss tt : List Stp) (st : List Qs), runQ lf (ss ++ tt) st = runQ lf tt (runQ lf ss st)
  | [], _, _ => rfl
  | s :: ss, tt, st => runQ_app lf ss tt _
def maxD : List Qs → Nat
  | [] => 0
  | q :: st => max q.dep (maxD st)
theorem stepQ_len {lf : Stp → Qs} {ss : List Stp} {k : Nat} : ∀ (s : Stp) (st : List Qs), okR (s :: ss) st.length = some k → okR ss (stepQ lf s st).length = some k
  | .and, [], h => by cases h
  | .and, [_], h => by cases h
  | .and, _ :: _ :: _, h => h
  | .or, [], h => by cases h
  | .or, [_], h => by cases h
  | .or, _ :: _ :: _, h => h
  | .not, [], h => by cases h
  | .not, _ :: _, h => h
  | .sure, [], h => by cases h
  | .sure, _ :: _, h => h
  | .twice, [], h => by cases h
  | .twice, _ :: _, h => h
  | .prs _, _, h => h
  | .bit _ _, _, h => h
  | .atm _ _, _, h => h
theorem runQ_len {lf : Stp → Qs} : ∀ (ss : List Stp) (st : List Qs) (k : Nat), okR ss st.length = some k → (runQ lf ss st).length = k
  | [], st, k, h => Option.some.inj h
  | s :: ss, st, k, h => runQ_len ss _ k (stepQ_len s st h)
theorem stepQ_dep {lf : Stp → Qs} (hlf : ∀ s, (lf s).dep = 1) {ss : List Stp} {k : Nat} : ∀ (s : Stp) (st : List Qs), okR (s :: ss) st.length = some k → maxD (stepQ lf s st) + ((stepQ lf s st).length - 1) + costR ss ≤ maxD st + (st.length - 1) + costR (s :: ss)
  | .and, [], h => by cases h
  | .and, [_], h => by cases h
  | .and, r :: q :: st, h => by
    show max (max q.dep r.dep + 1) (maxD st) + (st.length + 1 - 1) + costR ss ≤ max r.dep (max q.dep (maxD st)) + (st.length + 1 + 1 - 1) + costR ss
    omega
  | .or, [], h => by cases h
  | .or, [_], h => by cases h
  | .or, r :: q :: st, h => by
    show max (max q.dep r.dep + 1) (maxD st) + (st.length + 1 - 1) + costR ss ≤ max r.dep (max q.dep (maxD st)) + (st.length + 1 + 1 - 1) + costR ss
    omega
  | .not, [], h => by cases h
  | .not, q :: st, h => by
    show max (q.dep + 1) (maxD st) + (st.length + 1 - 1) + costR ss ≤ max q.dep (maxD st) + (st.length + 1 - 1) + (costR ss + 1)
    omega
  | .sure, [], h => by cases h
  | .sure, q :: st, h => by
    show max (q.dep + 1) (maxD st) + (st.length + 1 - 1) + costR ss ≤ max q.dep (maxD st) + (st.length + 1 - 1) + (costR ss + 1)
    omega
  | .twice, [], h => by cases h
  | .twice, q :: st, h => by
    show max q.dep (max q.dep (maxD st)) + (st.length + 1 + 1 - 1) + costR ss ≤ max q.dep (maxD st) + (st.length + 1 - 1) + (costR ss + 1)
    omega
  | .prs z, [], h => by
    show max (lf (.prs z)).dep 0 + (1 - 1) + costR ss ≤ 0 + (0 - 1) + (costR ss + 1)
    rw [hlf]; omega
  | .prs z, q :: st, h => by
    have := q.pos
    show max (lf (.prs z)).dep (max q.dep (maxD st)) + (st.length + 1 + 1 - 1) + costR ss ≤ max q.dep (maxD st) + (st.length + 1 - 1) + (costR ss + 1)
    rw [hlf]; omega
  | .bit z p, [], h => by
    show max (lf (.bit z p)).dep 0 + (1 - 1) + costR ss ≤ 0 + (0 - 1) + (costR ss + 1)
    rw [hlf]; omega
  | .bit z p, q :: st, h => by
    have := q.pos
    show max (lf (.bit z p)).dep (max q.dep (maxD st)) + (st.length + 1 + 1 - 1) + costR ss ≤ max q.dep (maxD st) + (st.length + 1 - 1) + (costR ss + 1)
    rw [hlf]; omega
  | .atm T b, [], h => by
    show max (lf (.atm T b)).dep 0 + (1 - 1) + costR ss ≤ 0 + (0 - 1) + (costR ss + 1)
    rw [hlf]; omega
  | .atm T b, q :: st, h => by
    have := q.pos
    show max (lf (.atm T b)).dep (max q.dep (maxD st)) + (st.length + 1 + 1 - 1) + costR ss ≤ max q.dep (maxD st) + (st.length + 1 - 1) + (costR ss + 1)
    rw [hlf]; omega
/-- the depth of what a recipe makes -/
theorem runQ_dep {lf : Stp → Qs} (hlf : ∀ s, (lf s).dep = 1) : ∀ (ss : List Stp) (st : List Qs) (k : Nat), okR ss st.length = some k → maxD (runQ lf ss st) + ((runQ lf ss st).length - 1) ≤ maxD st + (st.length - 1) + costR ss
  | [], st, k, h => Nat.le_refl _
  | s :: ss, st, k, h => by
    have ih := runQ_dep hlf ss _ k (stepQ_len (lf := lf) s st h)
    have hs := stepQ_dep hlf s st h
    show maxD (runQ lf ss (stepQ lf s st)) + ((runQ lf ss (stepQ lf s st)).length - 1) ≤ _
    omega
/-- a recipe that is whole makes one question, no deeper than its costs -/
theorem runQ_one {lf : Stp → Qs} (hlf : ∀ s, (lf s).dep = 1) {ss : List Stp} (h : okR ss 0 = some 1) : ∃ q, runQ lf ss [] = [q] ∧ q.dep ≤ costR ss := by
  have l := runQ_len (lf := lf) ss [] 1 h
  have d := runQ_dep hlf ss [] 1 h
  match hr : runQ lf ss [], l with
  | [q], _ =>
    rw [hr] at d
    refine ⟨q, rfl, ?_⟩
    have d : max q.dep 0 + (1 - 1) ≤ 0 + (0 - 1) + costR ss := d
    omega
end S
-- deps: Rcp
/-! ## a leaf's question: its terms sorted -/
namespace S
open PySem PySem.Spec PyProof.Rows L2
open Classical in
noncomputable def srtT (T : Tms) : Tms := if h : ∃ U, SoT U ∧ ∀ z, lkT U z = lkT T z then Classical.choose h else []
/-- terms that are sorted and are told alike are these -/
theorem srtT_eq {T U : Tms} (h : SoT U) (e : ∀ z, lkT U z = lkT T z) : srtT T = U := by
  have ex : ∃ U, SoT U ∧ ∀ z, lkT U z = lkT T z := ⟨U, h, e⟩
  unfold srtT
  rw [dif_pos ex]
  have sp := Classical.choose_spec ex
  exact srt_ext sp.1 h fun z => (sp.2 z).trans (e z).symm
noncomputable def lfQ : Stp → Qs
  | .prs z => .prs z
  | .bit z p => .bit z p
  | .atm T b => .atm (srtT T) b
  | _ => .prs ""
theorem lfQ_dep (s : Stp) : (lfQ s).dep = 1 := by cases s <;> rfl
end S
namespace S
open PySem PySem.Spec PyProof.Rows L2
def t_Questiondd_initdd (K : Frag) (E : XK) : TS :=
    dSto K "parts" (dVar 1) (dVar 0)
end S
-- fn: Question.__init__
-- law: k39
-- deps: Qs
namespace S
open PySem PySem.Spec PyProof.Rows L2
theorem SameX.tupQ {K : Frag} {H H' : Hp} {x C dy p : Addr} {as : List (Str × V)} {xs : List V} (e : SameX x H H') (hx : H x = some (.ins C dy as)) (h : SqT K H p xs) : SqT K H' p xs := by
  rcases h with (h | ⟨o, h⟩) | h
  · exact .inl (.inl (e _ _ h (ne_of h hx fun z => by cases z)))
  · exact .inl (.inr ⟨o, e _ _ h (ne_of h hx fun z => by cases z)⟩)
  · exact .inr h
def sp_Questiondd_initdd (K : Frag) : Sp := fun vs H Q _ => ∃ (x p dx : Addr) (c : Str) (ups fs : List Str) (as : List (Str × V)), vs = [.ref x, .ref p] ∧ DF K c ups ("parts" :: fs) ∧ H x = some (.ins (He.ga K c) dx as) ∧ as.length < 1000 ∧ Q .non (upd H x (.ins (He.ga K c) dx (putF "parts" (.ref p) as)))
theorem pure_Questiondd_initdd {K : Frag} (vs : List V) (H : Hp) (Q : VK) (E : XK) (h : sp_Questiondd_initdd K vs H Q E) : t_Questiondd_initdd K E { nx := fun _ H' => Q .non H', rt := Q } (start ["self", "parts"] vs) H := by
  obtain ⟨x, p, dx, c, ups, fs, as, rfl, d, hx, l, q⟩ := h
  walk_at "gx"
  exact Sto.df d hx l q (List.mem_cons_self ..)
end S
namespace S
open PySem PySem.Spec PyProof.Rows L2
def t_Bothdd_initdd_r_1 (K : Frag) (E : XK) : TS :=
    dSto K "other" (dVar 2) (dVar 0)
def t_Bothdd_initdd_r (K : Frag) (E : XK) : TS :=
    tSeq (dSto K "one" (dVar 1) (dVar 0))
    (stop (t_Bothdd_initdd_r_1 K E))
def t_Bothdd_initdd (K : Frag) (E : XK) : TS :=
    tSeq (dSup K "Both" (sp_Questiondd_initdd K) (EW E) (tCons (dTup K (tCons (dVar 1) (tCons (dVar 2) (tNil)))) (tNil)))
    (stop (t_Bothdd_initdd_r K E))
end S
-- fn: Both.__init__
-- law: k39
-- deps: Question_init
namespace S
open PySem PySem.Spec PyProof.Rows L2
def sp_Bothdd_initdd (K : Frag) : Sp := fun vs H Q _ => ∃ (H0 : Hp) (x dx a b : Addr) (q r : Qs), vs = [.ref x, .ref a, .ref b] ∧ DFq K "Both" ["one", "other"] ∧ inC "Both" ∧ H0 x = none ∧ H0 dx = none ∧ dx ≠ x ∧ Same H0 H ∧ H x = some (.ins (He.ga K "Both") dx []) ∧ QA K H0 a q ∧ QA K H0 b r ∧ ∀ p H', Same H0 H' → H' x = some (.ins (He.ga K "Both") dx [("parts", .ref p), ("one", .ref a), ("other", .ref b)]) → SqT K H' p [.ref a, .ref b] → Q .non H'
theorem pure_Bothdd_initdd {K : Frag} (vs : List V) (H : Hp) (Q : VK) (E : XK) (h : sp_Bothdd_initdd K vs H Q E) : t_Bothdd_initdd K E { nx := fun _ H' => Q .non H', rt := Q } (start ["self", "one", "other", "__class__"] vs) H := by
  obtain ⟨H0, x, dx, a, b, q, r, rfl, d, ic, nx, ndx, hne, e0, hx, ha, hb, k⟩ := h
  walk_at "gx"
  refine InsC.of hx ?_
  refine Need.mk (by rw [sizeLine_eq]; show 2 ≤ 16777216; decide) ⟨fun p H1 e1 hp => ?_⟩
  refine ⟨x, p, dx, "Both", _, _, [], rfl, d, e1 _ _ hx, by show 0 < 1000; decide, ?_⟩
  have e2 : Same H0 (upd H1 x (.ins (He.ga K "Both") dx (putF "parts" (.ref p) []))) := Same.mut (e0.trans e1) nx
  have hx2 : upd H1 x (.ins (He.ga K "Both") dx (putF "parts" (.ref p) [])) x = some (.ins (He.ga K "Both") dx [("parts", .ref p)]) := upd_same
  have hp2 := SameX.tupQ (SameX.upd (st := x) (o := .ins (He.ga K "Both") dx (putF "parts" (.ref p) []))) (e1 _ _ hx) hp
  generalize upd H1 x (.ins (He.ga K "Both") dx (putF "parts" (.ref p) [])) = H2 at *
  walk_at "gx"
  refine Sto.df d hx2 (by show 1 < 1000; decide) ?_
  have e3 : Same H0 (upd H2 x (.ins (He.ga K "Both") dx (putF "one" (.ref a) [("parts", .ref p)]))) := Same.mut e2 nx
  have hx3 : upd H2 x (.ins (He.ga K "Both") dx (putF "one" (.ref a) [("parts", .ref p)])) x = some (.ins (He.ga K "Both") dx [("parts", .ref p), ("one", .ref a)]) := upd_same
  have hp3 := SameX.tupQ (SameX.upd (st := x) (o := .ins (He.ga K "Both") dx (putF "one" (.ref a) [("parts", .ref p)]))) hx2 hp2
  generalize upd H2 x (.ins (He.ga K "Both") dx (putF "one" (.ref a) [("parts", .ref p)])) = H3 at *
  walk_at "gx"
  refine Sto.df d hx3 (by show 2 < 1000; decide) ?_
  exact k p _ (Same.mut e3 nx) upd_same (SameX.tupQ SameX.upd hx3 hp3)
theorem mk_both {K : Frag} {H : Hp} {a b : Addr} {q r : Qs} {R : Addr → Hp → Prop} {E : XK} (d : DFq K "Both" ["one", "other"]) (ic : inC "Both") (ha : QA K H a q) (hb : QA K H b r) (k : ∀ x p dx H', Same H H' → H x = none → H' x = some (.ins (He.ga K "Both") dx [("parts", .ref p), ("one", .ref a), ("other", .ref b)]) → QA K H' x (.both q r) → R x H') :
    NewI K H "Both" fun x H2 => sp_Bothdd_initdd K [.ref x, .ref a, .ref b] H2 (fun v H3 => v = .non ∧ R x H3) E := by
  refine ⟨fun x dx h1 h2 hne => ?_⟩
  have e : Same H (upd (upd H dx (.own x)) x (.ins (He.ga K "Both") dx [])) := fun b o h => by
    rw [upd_ne (ne_of_none h h1), upd_ne (ne_of_none h h2)]; exact h
  exact ⟨H, x, dx, a, b, q, r, rfl, d, ic, h1, h2, hne, e, upd_same, ha, hb, fun p H' e' hx hp => ⟨rfl, k x p dx H' e' h1 hx ⟨d, ic, dx, p, a, b, hx, hp, ha.same e', hb.same e'⟩⟩⟩
end S
namespace S
open PySem PySem.Spec PyProof.Rows L2
def t_Eitherdd_initdd_r_1 (K : Frag) (E : XK) : TS :=
    dSto K "other" (dVar 2) (dVar 0)
def t_Eitherdd_initdd_r (K : Frag) (E : XK) : TS :=
    tSeq (dSto K "one" (dVar 1) (dVar 0))
    (stop (t_Eitherdd_initdd_r_1 K E))
def t_Eitherdd_initdd (K : Frag) (E : XK) : TS :=
    tSeq (dSup K "Either" (sp_Questiondd_initdd K) (EW E) (tCons (dTup K (tCons (dVar 1) (tCons (dVar 2) (tNil)))) (tNil)))
    (stop (t_Eitherdd_initdd_r K E))
end S
-- fn: Either.__init__
-- law: k40
-- deps: Question_init
namespace S
open PySem PySem.Spec PyProof.Rows L2
def sp_Eitherdd_initdd (K : Frag) : Sp := fun vs H Q _ => ∃ (H0 : Hp) (x dx a b : Addr) (q r : Qs), vs = [.ref x, .ref a, .ref b] ∧ DFq K "Either" ["one", "other"] ∧ inC "Either" ∧ H0 x = none ∧ H0 dx = none ∧ dx ≠ x ∧ Same H0 H ∧ H x = some (.ins (He.ga K "Either") dx []) ∧ QA K H0 a q ∧ QA K H0 b r ∧ ∀ p H', Same H0 H' → H' x = some (.ins (He.ga K "Either") dx [("parts", .ref p), ("one", .ref a), ("other", .ref b)]) → SqT K H' p [.ref a, .ref b] → Q .non H'
theorem pure_Eitherdd_initdd {K : Frag} (vs : List V) (H : Hp) (Q : VK) (E : XK) (h : sp_Eitherdd_initdd K vs H Q E) : t_Eitherdd_initdd K E { nx := fun _ H' => Q .non H', rt := Q } (start ["self", "one", "other", "__class__"] vs) H := by
  obtain ⟨H0, x, dx, a, b, q, r, rfl, d, ic, nx, ndx, hne, e0, hx, ha, hb, k⟩ := h
  walk_at "gx"
  refine InsC.of hx ?_
  refine Need.mk (by rw [sizeLine_eq]; show 2 ≤ 16777216; decide) ⟨fun p H1 e1 hp => ?_⟩
  refine ⟨x, p, dx, "Either", _, _, [], rfl, d, e1 _ _ hx, by show 0 < 1000; decide, ?_⟩
  have e2 : Same H0 (upd H1 x (.ins (He.ga K "Either") dx (putF "parts" (.ref p) []))) := Same.mut (e0.trans e1) nx
  have hx2 : upd H1 x (.ins (He.ga K "Either") dx (putF "parts" (.ref p) [])) x = some (.ins (He.ga K "Either") dx [("parts", .ref p)]) := upd_same
  have hp2 := SameX.tupQ (SameX.upd (st := x) (o := .ins (He.ga K "Either") dx (putF "parts" (.ref p) []))) (e1 _ _ hx) hp
  generalize upd H1 x (.ins (He.ga K "Either") dx (putF "parts" (.ref p) [])) = H2 at *
  walk_at "gx"
  refine Sto.df d hx2 (by show 1 < 1000; decide) ?_
  have e3 : Same H0 (upd H2 x (.ins (He.ga K "Either") dx (putF "one" (.ref a) [("parts", .ref p)]))) := Same.mut e2 nx
  have hx3 : upd H2 x (.ins (He.ga K "Either") dx (putF "one" (.ref a) [("parts", .ref p)])) x = some (.ins (He.ga K "Either") dx [("parts", .ref p), ("one", .ref a)]) := upd_same
  have hp3 := SameX.tupQ (SameX.upd (st := x) (o := .ins (He.ga K "Either") dx (putF "one" (.ref a) [("parts", .ref p)]))) hx2 hp2
  generalize upd H2 x (.ins (He.ga K "Either") dx (putF "one" (.ref a) [("parts", .ref p)])) = H3 at *
  walk_at "gx"
  refine Sto.df d hx3 (by show 2 < 1000; decide) ?_
  exact k p _ (Same.mut e3 nx) upd_same (SameX.tupQ SameX.upd hx3 hp3)
theorem mk_eith {K : Frag} {H : Hp} {a b : Addr} {q r : Qs} {R : Addr → Hp → Prop} {E : XK} (d : DFq K "Either" ["one", "other"]) (ic : inC "Either") (ha : QA K H a q) (hb : QA K H b r) (k : ∀ x p dx H', Same H H' → H x = none → H' x = some (.ins (He.ga K "Either") dx [("parts", .ref p), ("one", .ref a), ("other", .ref b)]) → QA K H' x (.eith q r) → R x H') :
    NewI K H "Either" fun x H2 => sp_Eitherdd_initdd K [.ref x, .ref a, .ref b] H2 (fun v H3 => v = .non ∧ R x H3) E := by
  refine ⟨fun x dx h1 h2 hne => ?_⟩
  have e : Same H (upd (upd H dx (.own x)) x (.ins (He.ga K "Either") dx [])) := fun b o h => by
    rw [upd_ne (ne_of_none h h1), upd_ne (ne_of_none h h2)]; exact h
  exact ⟨H, x, dx, a, b, q, r, rfl, d, ic, h1, h2, hne, e, upd_same, ha, hb, fun p H' e' hx hp => ⟨rfl, k x p dx H' e' h1 hx ⟨d, ic, dx, p, a, b, hx, hp, ha.same e', hb.same e'⟩⟩⟩
end S
namespace S
open PySem PySem.Spec PyProof.Rows L2
def t_Oppositedd_initdd_r (K : Frag) (E : XK) : TS :=
    dSto K "part" (dVar 1) (dVar 0)
def t_Oppositedd_initdd (K : Frag) (E : XK) : TS :=
    tSeq (dSup K "Opposite" (sp_Questiondd_initdd K) (EW E) (tCons (dTup K (tCons (dVar 1) (tNil))) (tNil)))
    (stop (t_Oppositedd_initdd_r K E))
end S
-- fn: Opposite.__init__
-- law: k40
-- deps: Question_init
namespace S
open PySem PySem.Spec PyProof.Rows L2
def sp_Oppositedd_initdd (K : Frag) : Sp := fun vs H Q _ => ∃ (H0 : Hp) (x dx a : Addr) (q : Qs), vs = [.ref x, .ref a] ∧ DFq K "Opposite" ["part"] ∧ inC "Opposite" ∧ H0 x = none ∧ H0 dx = none ∧ dx ≠ x ∧ Same H0 H ∧ H x = some (.ins (He.ga K "Opposite") dx []) ∧ QA K H0 a q ∧ ∀ p H', Same H0 H' → H' x = some (.ins (He.ga K "Opposite") dx [("parts", .ref p), ("part", .ref a)]) → SqT K H' p [.ref a] → Q .non H'
theorem pure_Oppositedd_initdd {K : Frag} (vs : List V) (H : Hp) (Q : VK) (E : XK) (h : sp_Oppositedd_initdd K vs H Q E) : t_Oppositedd_initdd K E { nx := fun _ H' => Q .non H', rt := Q } (start ["self", "part", "__class__"] vs) H := by
  obtain ⟨H0, x, dx, a, q, rfl, d, ic, nx, ndx, hne, e0, hx, ha, k⟩ := h
  walk_at "gx"
  refine InsC.of hx ?_
  refine Need.mk (by rw [sizeLine_eq]; show 1 ≤ 16777216; decide) ⟨fun p H1 e1 hp => ?_⟩
  refine ⟨x, p, dx, "Opposite", _, _, [], rfl, d, e1 _ _ hx, by show 0 < 1000; decide, ?_⟩
  have e2 : Same H0 (upd H1 x (.ins (He.ga K "Opposite") dx (putF "parts" (.ref p) []))) := Same.mut (e0.trans e1) nx
  have hx2 : upd H1 x (.ins (He.ga K "Opposite") dx (putF "parts" (.ref p) [])) x = some (.ins (He.ga K "Opposite") dx [("parts", .ref p)]) := upd_same
  have hp2 := SameX.tupQ (SameX.upd (st := x) (o := .ins (He.ga K "Opposite") dx (putF "parts" (.ref p) []))) (e1 _ _ hx) hp
  generalize upd H1 x (.ins (He.ga K "Opposite") dx (putF "parts" (.ref p) [])) = H2 at *
  walk_at "gx"
  refine Sto.df d hx2 (by show 1 < 1000; decide) ?_
  exact k p _ (Same.mut e2 nx) upd_same (SameX.tupQ SameX.upd hx2 hp2)
theorem mk_opp {K : Frag} {H : Hp} {a : Addr} {q : Qs} {R : Addr → Hp → Prop} {E : XK} (d : DFq K "Opposite" ["part"]) (ic : inC "Opposite") (ha : QA K H a q) (k : ∀ x p dx H', Same H H' → H x = none → H' x = some (.ins (He.ga K "Opposite") dx [("parts", .ref p), ("part", .ref a)]) → QA K H' x (.opp q) → R x H') :
    NewI K H "Opposite" fun x H2 => sp_Oppositedd_initdd K [.ref x, .ref a] H2 (fun v H3 => v = .non ∧ R x H3) E := by
  refine ⟨fun x dx h1 h2 hne => ?_⟩
  have e : Same H (upd (upd H dx (.own x)) x (.ins (He.ga K "Opposite") dx [])) := fun b o h => by
    rw [upd_ne (ne_of_none h h1), upd_ne (ne_of_none h h2)]; exact h
  exact ⟨H, x, dx, a, q, rfl, d, ic, h1, h2, hne, e, upd_same, ha, fun p H' e' hx hp => ⟨rfl, k x p dx H' e' h1 hx ⟨d, ic, dx, p, a, hx, hp, ha.same e'⟩⟩⟩
end S
namespace S
open PySem PySem.Spec PyProof.Rows L2
def t_Surelydd_initdd_r (K : Frag) (E : XK) : TS :=
    dSto K "part" (dVar 1) (dVar 0)
def t_Surelydd_initdd (K : Frag) (E : XK) : TS :=
    tSeq (dSup K "Surely" (sp_Questiondd_initdd K) (EW E) (tCons (dTup K (tCons (dVar 1) (tNil))) (tNil)))
    (stop (t_Surelydd_initdd_r K E))
end S
-- fn: Surely.__init__
-- law: k40
-- deps: Question_init
namespace S
open PySem PySem.Spec PyProof.Rows L2
def sp_Surelydd_initdd (K : Frag) : Sp := fun vs H Q _ => ∃ (H0 : Hp) (x dx a : Addr) (q : Qs), vs = [.ref x, .ref a] ∧ DFq K "Surely" ["part"] ∧ inC "Surely" ∧ H0 x = none ∧ H0 dx = none ∧ dx ≠ x ∧ Same H0 H ∧ H x = some (.ins (He.ga K "Surely") dx []) ∧ QA K H0 a q ∧ ∀ p H', Same H0 H' → H' x = some (.ins (He.ga K "Surely") dx [("parts", .ref p), ("part", .ref a)]) → SqT K H' p [.ref a] → Q .non H'
theorem pure_Surelydd_initdd {K : Frag} (vs : List V) (H : Hp) (Q : VK) (E : XK) (h : sp_Surelydd_initdd K vs H Q E) : t_Surelydd_initdd K E { nx := fun _ H' => Q .non H', rt := Q } (start ["self", "part", "__class__"] vs) H := by
  obtain ⟨H0, x, dx, a, q, rfl, d, ic, nx, ndx, hne, e0, hx, ha, k⟩ := h
  walk_at "gx"
  refine InsC.of hx ?_
  refine Need.mk (by rw [sizeLine_eq]; show 1 ≤ 16777216; decide) ⟨fun p H1 e1 hp => ?_⟩
  refine ⟨x, p, dx, "Surely", _, _, [], rfl, d, e1 _ _ hx, by show 0 < 1000; decide, ?_⟩
  have e2 : Same H0 (upd H1 x (.ins (He.ga K "Surely") dx (putF "parts" (.ref p) []))) := Same.mut (e0.trans e1) nx
  have hx2 : upd H1 x (.ins (He.ga K "Surely") dx (putF "parts" (.ref p) [])) x = some (.ins (He.ga K "Surely") dx [("parts", .ref p)]) := upd_same
  have hp2 := SameX.tupQ (SameX.upd (st := x) (o := .ins (He.ga K "Surely") dx (putF "parts" (.ref p) []))) (e1 _ _ hx) hp
  generalize upd H1 x (.ins (He.ga K "Surely") dx (putF "parts" (.ref p) [])) = H2 at *
  walk_at "gx"
  refine Sto.df d hx2 (by show 1 < 1000; decide) ?_
  exact k p _ (Same.mut e2 nx) upd_same (SameX.tupQ SameX.upd hx2 hp2)
theorem mk_sure {K : Frag} {H : Hp} {a : Addr} {q : Qs} {R : Addr → Hp → Prop} {E : XK} (d : DFq K "Surely" ["part"]) (ic : inC "Surely") (ha : QA K H a q) (k : ∀ x p dx H', Same H H' → H x = none → H' x = some (.ins (He.ga K "Surely") dx [("parts", .ref p), ("part", .ref a)]) → QA K H' x (.sure q) → R x H') :
    NewI K H "Surely" fun x H2 => sp_Surelydd_initdd K [.ref x, .ref a] H2 (fun v H3 => v = .non ∧ R x H3) E := by
  refine ⟨fun x dx h1 h2 hne => ?_⟩
  have e : Same H (upd (upd H dx (.own x)) x (.ins (He.ga K "Surely") dx [])) := fun b o h => by
    rw [upd_ne (ne_of_none h h1), upd_ne (ne_of_none h h2)]; exact h
  exact ⟨H, x, dx, a, q, rfl, d, ic, h1, h2, hne, e, upd_same, ha, fun p H' e' hx hp => ⟨rfl, k x p dx H' e' h1 hx ⟨d, ic, dx, p, a, hx, hp, ha.same e'⟩⟩⟩
end S
namespace S
open PySem PySem.Spec PyProof.Rows L2
def t_Question_surely (K : Frag) (E : XK) : TS :=
    tRet (dGiv (DF K "Surely" ["Question"] ["parts", "part"]) (dMake K "Surely" (sp_Surelydd_initdd K) (EW E) (tCons (dVar 0) (tNil))))
end S
namespace S
open PySem PySem.Spec PyProof.Rows L2
def t_Questiondd_anddd (K : Frag) (E : XK) : TS :=
    tRet (dGiv (DF K "Both" ["Question"] ["parts", "one", "other"]) (dMake K "Both" (sp_Bothdd_initdd K) (EW E) (tCons (dVar 0) (tCons (dVar 1) (tNil)))))
end S
namespace S
open PySem PySem.Spec PyProof.Rows L2
def t_Questiondd_ordd (K : Frag) (E : XK) : TS :=
    tRet (dGiv (DF K "Either" ["Question"] ["parts", "one", "other"]) (dMake K "Either" (sp_Eitherdd_initdd K) (EW E) (tCons (dVar 0) (tCons (dVar 1) (tNil)))))
end S
namespace S
open PySem PySem.Spec PyProof.Rows L2
def t_Questiondd_invertdd (K : Frag) (E : XK) : TS :=
    tRet (dGiv (DF K "Opposite" ["Question"] ["parts", "part"]) (dMake K "Opposite" (sp_Oppositedd_initdd K) (EW E) (tCons (dVar 0) (tNil))))
end S
-- fn: Question.surely Question.__and__ Question.__or__ Question.__invert__
-- law: k40
-- deps: Both_init Either_init Opposite_init Surely_init
namespace S
open PySem PySem.Spec PyProof.Rows L2
def sp_Question_surely (K : Frag) : Sp := fun vs H Q _ => ∃ (a : Addr) (q : Qs), vs = [.ref a] ∧ inC "Surely" ∧ QA K H a q ∧ ∀ x H', Same H H' → H x = none → QA K H' x (.sure q) → Q (.ref x) H'
theorem pure_Question_surely {K : Frag} (vs : List V) (H : Hp) (Q : VK) (E : XK) (h : sp_Question_surely K vs H Q E) : t_Question_surely K E { nx := fun _ H' => Q .non H', rt := Q } (start ["self"] vs) H := by
  obtain ⟨a, q, rfl, ic, ha, k⟩ := h
  walk_at "gx"
  refine fun d => ?_
  exact mk_sure d ic ha fun x _ _ H1 e1 nx _ hx => k x H1 e1 nx hx
def sp_Questiondd_anddd (K : Frag) : Sp := fun vs H Q _ => ∃ (a b : Addr) (q r : Qs), vs = [.ref a, .ref b] ∧ inC "Both" ∧ QA K H a q ∧ QA K H b r ∧ ∀ x H', Same H H' → H x = none → QA K H' x (.both q r) → Q (.ref x) H'
theorem pure_Questiondd_anddd {K : Frag} (vs : List V) (H : Hp) (Q : VK) (E : XK) (h : sp_Questiondd_anddd K vs H Q E) : t_Questiondd_anddd K E { nx := fun _ H' => Q .non H', rt := Q } (start ["self", "other"] vs) H := by
  obtain ⟨a, b, q, r, rfl, ic, ha, hb, k⟩ := h
  walk_at "gx"
  refine fun d => ?_
  exact mk_both d ic ha hb fun x _ _ H1 e1 nx _ hx => k x H1 e1 nx hx
def sp_Questiondd_ordd (K : Frag) : Sp := fun vs H Q _ => ∃ (a b : Addr) (q r : Qs), vs = [.ref a, .ref b] ∧ inC "Either" ∧ QA K H a q ∧ QA K H b r ∧ ∀ x H', Same H H' → H x = none → QA K H' x (.eith q r) → Q (.ref x) H'
theorem pure_Questiondd_ordd {K : Frag} (vs : List V) (H : Hp) (Q : VK) (E : XK) (h : sp_Questiondd_ordd K vs H Q E) : t_Questiondd_ordd K E { nx := fun _ H' => Q .non H', rt := Q } (start ["self", "other"] vs) H := by
  obtain ⟨a, b, q, r, rfl, ic, ha, hb, k⟩ := h
  walk_at "gx"
  refine fun d => ?_
  exact mk_eith d ic ha hb fun x _ _ H1 e1 nx _ hx => k x H1 e1 nx hx
def sp_Questiondd_invertdd (K : Frag) : Sp := fun vs H Q _ => ∃ (a : Addr) (q : Qs), vs = [.ref a] ∧ inC "Opposite" ∧ QA K H a q ∧ ∀ x H', Same H H' → H x = none → QA K H' x (.opp q) → Q (.ref x) H'
theorem pure_Questiondd_invertdd {K : Frag} (vs : List V) (H : Hp) (Q : VK) (E : XK) (h : sp_Questiondd_invertdd K vs H Q E) : t_Questiondd_invertdd K E { nx := fun _ H' => Q .non H', rt := Q } (start ["self"] vs) H := by
  obtain ⟨a, q, rfl, ic, ha, k⟩ := h
  walk_at "gx"
  refine fun d => ?_
  exact mk_opp d ic ha fun x _ _ H1 e1 nx _ hx => k x H1 e1 nx hx
end S
namespace S
open PySem PySem.Spec PyProof.Rows L2
def t_Presentdd_initdd_r (K : Frag) (E : XK) : TS :=
    dSto K "name" (dVar 1) (dVar 0)
def t_Presentdd_initdd (K : Frag) (E : XK) : TS :=
    tSeq (dSup K "Present" (sp_Questiondd_initdd K) (EW E) (tCons (dTup K (tNil)) (tNil)))
    (stop (t_Presentdd_initdd_r K E))
end S
-- fn: Present.__init__
-- law: k40
-- deps: Question_init
namespace S
open PySem PySem.Spec PyProof.Rows L2
def sp_Presentdd_initdd (K : Frag) : Sp := fun vs H Q _ => ∃ (H0 : Hp) (x dx : Addr) (z : Str), vs = [.ref x, .str z] ∧ DFq K "Present" ["name"] ∧ inC "Present" ∧ H0 x = none ∧ dx ≠ x ∧ Same H0 H ∧ H x = some (.ins (He.ga K "Present") dx []) ∧ ∀ p H', Same H0 H' → H' x = some (.ins (He.ga K "Present") dx [("parts", .ref p), ("name", .str z)]) → Q .non H'
theorem pure_Presentdd_initdd {K : Frag} (vs : List V) (H : Hp) (Q : VK) (E : XK) (h : sp_Presentdd_initdd K vs H Q E) : t_Presentdd_initdd K E { nx := fun _ H' => Q .non H', rt := Q } (start ["self", "name", "__class__"] vs) H := by
  obtain ⟨H0, x, dx, z, rfl, d, ic, nx, hne, e0, hx, k⟩ := h
  walk_at "gx"
  refine InsC.of hx ?_
  refine Need.mk (by rw [sizeLine_eq]; show 0 ≤ 16777216; decide) ⟨fun p H1 e1 hp => ?_⟩
  refine ⟨x, p, dx, "Present", _, _, [], rfl, d, e1 _ _ hx, by show 0 < 1000; decide, ?_⟩
  have e2 : Same H0 (upd H1 x (.ins (He.ga K "Present") dx (putF "parts" (.ref p) []))) := Same.mut (e0.trans e1) nx
  have hx2 : upd H1 x (.ins (He.ga K "Present") dx (putF "parts" (.ref p) [])) x = some (.ins (He.ga K "Present") dx [("parts", .ref p)]) := upd_same
  generalize upd H1 x (.ins (He.ga K "Present") dx (putF "parts" (.ref p) [])) = H2 at *
  walk_at "gx"
  refine Sto.df d hx2 (by show 1 < 1000; decide) ?_
  exact k p _ (Same.mut e2 nx) upd_same
theorem mk_prs {K : Frag} {H : Hp} {z : Str} {R : Addr → Hp → Prop} {E : XK} (d : DFq K "Present" ["name"]) (ic : inC "Present") (k : ∀ x p dx H', Same H H' → H x = none → H' x = some (.ins (He.ga K "Present") dx [("parts", .ref p), ("name", .str z)]) → QA K H' x (.prs z) → R x H') :
    NewI K H "Present" fun x H2 => sp_Presentdd_initdd K [.ref x, .str z] H2 (fun v H3 => v = .non ∧ R x H3) E := by
  refine ⟨fun x dx h1 h2 hne => ?_⟩
  have e : Same H (upd (upd H dx (.own x)) x (.ins (He.ga K "Present") dx [])) := fun b o h => by
    rw [upd_ne (ne_of_none h h1), upd_ne (ne_of_none h h2)]; exact h
  exact ⟨H, x, dx, z, rfl, d, ic, h1, hne, e, upd_same, fun p H' e' hx => ⟨rfl, k x p dx H' e' h1 hx ⟨d, ic, dx, p, hx⟩⟩⟩
end S
namespace S
open PySem PySem.Spec PyProof.Rows L2
def t_HasBitdd_initdd_r_1 (K : Frag) (E : XK) : TS :=
    dSto K "place" (dVar 2) (dVar 0)
def t_HasBitdd_initdd_r (K : Frag) (E : XK) : TS :=
    tSeq (dSto K "name" (dVar 1) (dVar 0))
    (stop (t_HasBitdd_initdd_r_1 K E))
def t_HasBitdd_initdd (K : Frag) (E : XK) : TS :=
    tSeq (dSup K "HasBit" (sp_Questiondd_initdd K) (EW E) (tCons (dTup K (tNil)) (tNil)))
    (stop (t_HasBitdd_initdd_r K E))
end S
-- fn: HasBit.__init__
-- law: k40
-- deps: Question_init
namespace S
open PySem PySem.Spec PyProof.Rows L2
def sp_HasBitdd_initdd (K : Frag) : Sp := fun vs H Q _ => ∃ (H0 : Hp) (x dx : Addr) (z : Str) (i : Int), vs = [.ref x, .str z, .int i] ∧ DFq K "HasBit" ["name", "place"] ∧ inC "HasBit" ∧ H0 x = none ∧ dx ≠ x ∧ Same H0 H ∧ H x = some (.ins (He.ga K "HasBit") dx []) ∧ ∀ p H', Same H0 H' → H' x = some (.ins (He.ga K "HasBit") dx [("parts", .ref p), ("name", .str z), ("place", .int i)]) → Q .non H'
theorem pure_HasBitdd_initdd {K : Frag} (vs : List V) (H : Hp) (Q : VK) (E : XK) (h : sp_HasBitdd_initdd K vs H Q E) : t_HasBitdd_initdd K E { nx := fun _ H' => Q .non H', rt := Q } (start ["self", "name", "place", "__class__"] vs) H := by
  obtain ⟨H0, x, dx, z, i, rfl, d, ic, nx, hne, e0, hx, k⟩ := h
  walk_at "gx"
  refine InsC.of hx ?_
  refine Need.mk (by rw [sizeLine_eq]; show 0 ≤ 16777216; decide) ⟨fun p H1 e1 hp => ?_⟩
  refine ⟨x, p, dx, "HasBit", _, _, [], rfl, d, e1 _ _ hx, by show 0 < 1000; decide, ?_⟩
  have e2 : Same H0 (upd H1 x (.ins (He.ga K "HasBit") dx (putF "parts" (.ref p) []))) := Same.mut (e0.trans e1) nx
  have hx2 : upd H1 x (.ins (He.ga K "HasBit") dx (putF "parts" (.ref p) [])) x = some (.ins (He.ga K "HasBit") dx [("parts", .ref p)]) := upd_same
  generalize upd H1 x (.ins (He.ga K "HasBit") dx (putF "parts" (.ref p) [])) = H2 at *
  walk_at "gx"
  refine Sto.df d hx2 (by show 1 < 1000; decide) ?_
  have e3 : Same H0 (upd H2 x (.ins (He.ga K "HasBit") dx (putF "name" (.str z) [("parts", .ref p)]))) := Same.mut e2 nx
  have hx3 : upd H2 x (.ins (He.ga K "HasBit") dx (putF "name" (.str z) [("parts", .ref p)])) x = some (.ins (He.ga K "HasBit") dx [("parts", .ref p), ("name", .str z)]) := upd_same
  generalize upd H2 x (.ins (He.ga K "HasBit") dx (putF "name" (.str z) [("parts", .ref p)])) = H3 at *
  walk_at "gx"
  refine Sto.df d hx3 (by show 2 < 1000; decide) ?_
  exact k p _ (Same.mut e3 nx) upd_same
theorem mk_bit {K : Frag} {H : Hp} {z : Str} {i : Int} {R : Addr → Hp → Prop} {E : XK} (d : DFq K "HasBit" ["name", "place"]) (ic : inC "HasBit") (k : ∀ x p dx H', Same H H' → H x = none → H' x = some (.ins (He.ga K "HasBit") dx [("parts", .ref p), ("name", .str z), ("place", .int i)]) → QA K H' x (.bit z i) → R x H') :
    NewI K H "HasBit" fun x H2 => sp_HasBitdd_initdd K [.ref x, .str z, .int i] H2 (fun v H3 => v = .non ∧ R x H3) E := by
  refine ⟨fun x dx h1 h2 hne => ?_⟩
  have e : Same H (upd (upd H dx (.own x)) x (.ins (He.ga K "HasBit") dx [])) := fun b o h => by
    rw [upd_ne (ne_of_none h h1), upd_ne (ne_of_none h h2)]; exact h
  exact ⟨H, x, dx, z, i, rfl, d, ic, h1, hne, e, upd_same, fun p H' e' hx => ⟨rfl, k x p dx H' e' h1 hx ⟨d, ic, dx, p, hx⟩⟩⟩
end S
namespace S
open PySem PySem.Spec PyProof.Rows L2
def t_AtMostdd_initdd_r_1 (K : Frag) (E : XK) : TS :=
    dSto K "bound" (tOp oSub (dVar 2) (dAt K "offset" (dVar 1))) (dVar 0)
def t_AtMostdd_initdd_r (K : Frag) (E : XK) : TS :=
    tSeq (dSto K "terms" (dAt K "terms" (dVar 1)) (dVar 0))
    (stop (t_AtMostdd_initdd_r_1 K E))
def t_AtMostdd_initdd (K : Frag) (E : XK) : TS :=
    tSeq (dSup K "AtMost" (sp_Questiondd_initdd K) (EW E) (tCons (dTup K (tNil)) (tNil)))
    (stop (t_AtMostdd_initdd_r K E))
end S
-- fn: AtMost.__init__
-- law: k39
-- deps: Question_init
namespace S
open PySem PySem.Spec PyProof.Rows L2
def sp_AtMostdd_initdd (K : Frag) : Sp := fun vs H Q _ => ∃ (H0 : Hp) (x dx f : Addr) (T : Tms) (o b : Int), vs = [.ref x, .ref f, .int b] ∧ DFq K "AtMost" ["terms", "bound"] ∧ inC "AtMost" ∧ H0 x = none ∧ H0 dx = none ∧ dx ≠ x ∧ Same H0 H ∧ H x = some (.ins (He.ga K "AtMost") dx []) ∧ Fo K H0 f T o ∧ (∀ t ∈ T, -(2 ^ 64) < t.2 ∧ t.2 < 2 ^ 64) ∧ ∀ H', Same H0 H' → QA K H' x (.atm T (b - o)) → Q .non H'
theorem Cols.xq {K : Frag} {H H' : Hp} {x C dy : Addr} {as : List (Str × V)} {ys : List V} {cs : List Col} (h : Cols K H ys cs) (e : SameX x H H') (hx : H x = some (.ins C dy as)) : Cols K H' ys cs := Paired.mapP h fun _ _ ⟨a, h1, h2⟩ => ⟨a, h1, by
  rcases h2 with (h | ⟨o, h⟩) | h
  · exact .inl (.inl (e _ _ h (ne_of h hx fun z => by cases z)))
  · exact .inl (.inr ⟨o, e _ _ h (ne_of h hx fun z => by cases z)⟩)
  · exact .inr h⟩
theorem pure_AtMostdd_initdd {K : Frag} (vs : List V) (H : Hp) (Q : VK) (E : XK) (h : sp_AtMostdd_initdd K vs H Q E) : t_AtMostdd_initdd K E { nx := fun _ H' => Q .non H', rt := Q } (start ["self", "form", "bound", "__class__"] vs) H := by
  obtain ⟨H0, x, dx, f, T, o, b, rfl, d, ic, nx, ndx, hne, e0, hx, hf, sm, q⟩ := h
  obtain ⟨cf, so, lT, dy, u, ys, s0, hu, hC⟩ := id hf
  walk_at "gx"
  refine InsC.of hx ?_
  refine Need.mk (by rw [sizeLine_eq]; show 0 ≤ 16777216; decide) ⟨fun p H1 e1 _ => ?_⟩
  refine ⟨x, p, dx, "AtMost", _, _, [], rfl, d, e1 _ _ hx, by show 0 < 1000; decide, ?_⟩
  have e2 : Same H0 (upd H1 x (.ins (He.ga K "AtMost") dx (putF "parts" (.ref p) []))) := Same.mut (e0.trans e1) nx
  have hx2 : upd H1 x (.ins (He.ga K "AtMost") dx (putF "parts" (.ref p) [])) x = some (.ins (He.ga K "AtMost") dx [("parts", .ref p)]) := upd_same
  generalize upd H1 x (.ins (He.ga K "AtMost") dx (putF "parts" (.ref p) [])) = H2 at *
  walk_at "gx"
  refine Atr.sl cf (Same.slt e2 s0) (i := 1) rfl rfl ?_
  refine Sto.df d hx2 (by show 1 < 1000; decide) ?_
  have e3 : Same H0 (upd H2 x (.ins (He.ga K "AtMost") dx (putF "terms" (.ref u) [("parts", .ref p)]))) := Same.mut e2 nx
  have hx3 : upd H2 x (.ins (He.ga K "AtMost") dx (putF "terms" (.ref u) [("parts", .ref p)])) x = some (.ins (He.ga K "AtMost") dx [("parts", .ref p), ("terms", .ref u)]) := upd_same
  generalize upd H2 x (.ins (He.ga K "AtMost") dx (putF "terms" (.ref u) [("parts", .ref p)])) = H3 at *
  walk_at "gx"
  refine Atr.sl cf (Same.slt e3 s0) (i := 0) rfl rfl ?_
  refine Sto.df d hx3 (by show 2 < 1000; decide) ?_
  have e4 : Same H0 (upd H3 x (.ins (He.ga K "AtMost") dx (putF "bound" (.int (b - o)) [("parts", .ref p), ("terms", .ref u)]))) := Same.mut e3 nx
  exact q _ e4 ⟨d, ⟨so, lT, sm⟩, ic, dx, p, u, ys, upd_same, hu.same e4, hC.same e4⟩
theorem mk_atm {K : Frag} {H : Hp} {f : Addr} {T : Tms} {o b : Int} {R : Addr → Hp → Prop} {E : XK} (d : DFq K "AtMost" ["terms", "bound"]) (ic : inC "AtMost") (hf : Fo K H f T o) (sm : ∀ t ∈ T, -(2 ^ 64) < t.2 ∧ t.2 < 2 ^ 64) (q : ∀ x H', Same H H' → H x = none → QA K H' x (.atm T (b - o)) → R x H') :
    NewI K H "AtMost" fun x H2 => sp_AtMostdd_initdd K [.ref x, .ref f, .int b] H2 (fun v H3 => v = .non ∧ R x H3) E := by
  refine ⟨fun x dx h1 h2 hne => ?_⟩
  have e : Same H (upd (upd H dx (.own x)) x (.ins (He.ga K "AtMost") dx [])) := fun b o h => by
    rw [upd_ne (ne_of_none h h1), upd_ne (ne_of_none h h2)]; exact h
  exact ⟨H, x, dx, f, T, o, b, rfl, d, ic, h1, h2, hne, e, upd_same, hf, sm, fun H' e' hq => ⟨rfl, q x H' e' h1 hq⟩⟩
end S
-- deps: D0 D1
/-! ## loops over the keys of a dict, told at the heap without the lock -/
namespace S
open PySem PySem.Spec PyProof.Rows L2
theorem upd_back {H : Hp} {d : Addr} {u w : HO} (h : H d = some u) : upd (upd H d w) d u = H := funext fun b => by
  by_cases e : b = d
  · subst e; rw [upd_same, h]
  · rw [upd_ne e, upd_ne e]
theorem upd_swap {H : Hp} {d b : Addr} {u w : HO} (n : b ≠ d) : upd (upd H d u) b w = upd (upd H b w) d u := funext fun c => by
  by_cases e : c = d
  · subst e; rw [upd_ne (Ne.symm n), upd_same, upd_same]
  · rw [upd_ne e]
    by_cases g : c = b
    · subst g; rw [upd_same, upd_same]
    · rw [upd_ne g, upd_ne g, upd_ne e]
/-- the lock on d -/
abbrev lkd (U : Hp) (d : Addr) (od : Obj) (kvs : List (Key × V)) : Hp := upd U d (.frz od (.dK kvs))
theorem lkd_rd {U : Hp} {d : Addr} {od : Obj} {kvs : List (Key × V)} : L2.Rd (lkd U d od kvs) d (.dK kvs) := .inr ⟨od, upd_same⟩
theorem lkd_ne {U : Hp} {d b : Addr} {od : Obj} {kvs : List (Key × V)} {o : HO} (h : U b = some o) (n : b ≠ d) : lkd U d od kvs b = some o := by show upd _ _ _ _ = _; rw [upd_ne n]; exact h
theorem lkd_rdne {U : Hp} {d b : Addr} {od : Obj} {kvs : List (Key × V)} {u : HO} (h : L2.Rd U b u) (n : b ≠ d) : L2.Rd (lkd U d od kvs) b u := h.elim (fun h => .inl (lkd_ne h n)) fun ⟨o, h⟩ => .inr ⟨o, lkd_ne h n⟩
/-- after a store on b -/
theorem lkd_put {U : Hp} {d b : Addr} {od : Obj} {kvs : List (Key × V)} {o : HO} (h : U d = some (.dK kvs)) (n : b ≠ d) : upd (upd (lkd U d od kvs) b o) d (.dK kvs) = upd U b o := by
  show upd (upd (upd U d _) b o) d _ = _
  rw [upd_swap n]
  exact upd_back (by rw [upd_ne (Ne.symm n)]; exact h)
theorem lkd_put_at {U : Hp} {d b : Addr} {od : Obj} {kvs : List (Key × V)} {o : HO} (n : b ≠ d) : upd (lkd U d od kvs) b o d = some (.frz od (.dK kvs)) := by
  rw [upd_ne (Ne.symm n)]; exact upd_same
theorem lkd_back {U : Hp} {d : Addr} {od : Obj} {kvs : List (Key × V)} (h : U d = some (.dK kvs)) : upd (lkd U d od kvs) d (.dK kvs) = U := upd_back h
/-- what the body of such a loop is asked for -/
def KeyE (d : Addr) (od : Obj) (kvs : List (Key × V)) (D : L2.Ends) (P : L2.St → Hp → Prop) : L2.Ends := { lkD d od (.dK kvs) D with nx := fun σ H => H d = some (.frz od (.dK kvs)) ∧ P σ (upd H d (.dK kvs)), ct := fun σ H => H d = some (.frz od (.dK kvs)) ∧ P σ (upd H d (.dK kvs)), bk := (lkD d od (.dK kvs) D).nx }
theorem for_keysU {d : Addr} {kvs : List (Key × V)} {g : TG} {tb : TS} {D : L2.Ends} {σ : L2.St} {H : Hp} (hk : H d = some (.dK kvs)) (P : Nat → L2.St → Hp → Prop) (h0 : P 0 σ H)
    (hs : ∀ od i k v σ U, kvs[i]? = some (k, v) → U d = some (.dK kvs) → P i σ U → g (kV k) σ (lkd U d od kvs) fun σ2 H2 => tb (KeyE d od kvs D (P (i + 1))) σ2 H2)
    (hd : ∀ σ U, U d = some (.dK kvs) → P kvs.length σ U → D.nx σ U) : LockK H d D g tb σ := by
  refine for_keys hk (fun i σ H' => P i σ (upd H' d (.dK kvs))) (fun od => by show P 0 σ (upd (upd H d _) d _); rw [upd_back hk]; exact h0) (fun od i k v σ H' hi hl p => ?_) (fun od σ H' hl p => hd σ _ upd_same p)
  have e : H' = lkd (upd H' d (.dK kvs)) d od kvs := (upd_back hl).symm
  have := hs od i k v σ (upd H' d (.dK kvs)) hi upd_same p
  rw [← e] at this
  exact this
end S
-- deps: Fkey Fm2
namespace S
open PySem PySem.Spec PyProof.Rows L2
theorem dkI_at {D : Tms} {i : Nat} {k : Key} {v : V} (h : (dkI D)[i]? = some (k, v)) : ∃ t, D[i]? = some t ∧ k = .inr t.1 ∧ v = .int t.2 := by
  unfold dkI at h
  rw [List.getElem?_map] at h
  cases e : D[i]? with
  | none => rw [e] at h; cases h
  | some t => rw [e] at h; cases h; exact ⟨t, rfl, rfl, rfl⟩
theorem dkI_len (D : Tms) : (dkI D).length = D.length := List.length_map _
theorem put_take {T : Tms} {i : Nat} {t : Col} (nd : (nmT T).Nodup) (h : T[i]? = some t) : putT (T.take i) t.1 t.2 = T.take (i + 1) := by
  unfold putT
  rw [if_neg (fun g => take_fresh nd h (lkT_is.mp g)), List.take_add_one, h]; rfl
end S
-- deps: D0 D1
namespace S
open PySem PySem.Spec PyProof.Rows L2
/-- a loop that leaves all that stood -/
theorem for_stay {K : Frag} {p : Addr} {xs : List V} {g : TG} {tb : TS} {D : L2.Ends} {σ : L2.St} {H : Hp} (Pv : Nat → L2.St → Hp → Prop) (hx : SqA K H p xs) (h0 : Pv 0 σ H)
    (hs : ∀ i x σ H', xs[i]? = some x → Pv i σ H' → Same H H' → g x σ H' fun σ2 H2 => tb { D with nx := fun σ H'' => Pv (i + 1) σ H'' ∧ Same H H'', ct := fun σ H'' => Pv (i + 1) σ H'' ∧ Same H H'', bk := D.nx } σ2 H2) (hd : ∀ σ H', Pv xs.length σ H' → Same H H' → D.nx σ H') :
    Walk K H p (LoopR D g tb σ) := for_seq (fun i σ H' => Pv i σ H' ∧ Same H H') hx ⟨h0, Same.refl _⟩ (fun _ _ _ _ z => Same.stay z.2) (fun i x σ H' hi z => hs i x σ H' hi z.1 z.2) fun σ H' z => hd σ H' z.1 z.2
/-- a loop that leaves all that stood at an older heap H0, where the sequence stood -/
theorem for_seq0 {K : Frag} {p : Addr} {xs : List V} {g : TG} {tb : TS} {D : L2.Ends} {σ : L2.St} {H0 H : Hp} (Pv : Nat → L2.St → Hp → Prop) (hx : SqA K H0 p xs) (e0 : Same H0 H) (h0 : Pv 0 σ H) (hl : ∀ i σ H', Pv i σ H' → Same H0 H')
    (hs : ∀ i x σ H, xs[i]? = some x → Pv i σ H → g x σ H fun σ2 H2 => tb { D with nx := Pv (i + 1), ct := Pv (i + 1), bk := D.nx } σ2 H2) (hd : ∀ σ H, Pv xs.length σ H → D.nx σ H) :
    Walk K H p (LoopR D g tb σ) := by
  rcases hx with hx | hx
  · exact ⟨.inl ⟨⟨xs, e0.seq hx⟩, for_list Pv h0 (fun i σ H' hi q => (hl i σ H' q).seq hx) hs hd⟩⟩
  · exact ⟨.inr ⟨⟨xs, Same.tup e0 hx⟩, for_tup Pv h0 (fun i σ H' hi q => Same.tup (hl i σ H' q) hx) hs hd⟩⟩
/-- a loop over a list that stays in its place -/
theorem for_lst {K : Frag} {p : Addr} {xs : List V} {g : TG} {tb : TS} {D : L2.Ends} {σ : L2.St} {H : Hp} (Pv : Nat → L2.St → Hp → Prop) (hx : H p = some (.lst xs)) (h0 : Pv 0 σ H) (hl : ∀ i σ H', Pv i σ H' → H' p = some (.lst xs))
    (hs : ∀ i x σ H, xs[i]? = some x → Pv i σ H → g x σ H fun σ2 H2 => tb { D with nx := Pv (i + 1), ct := Pv (i + 1), bk := D.nx } σ2 H2) (hd : ∀ σ H, Pv xs.length σ H → D.nx σ H) :
    Walk K H p (LoopR D g tb σ) := ⟨.inl ⟨⟨xs, SqL.of hx⟩, for_list Pv h0 (fun i σ H' hi q => SqL.of (hl i σ H' q)) hs hd⟩⟩
end S
-- deps: D0 D1
/-! ## the last item of a list -/
namespace S
open PySem PySem.Spec PyProof.Rows L2
theorem set_lastV (y v : V) : ∀ xs : List V, (xs ++ [y]).set xs.length v = xs ++ [v]
  | [] => rfl
  | x :: xs => by show x :: ((xs ++ [y]).set xs.length v) = _; rw [set_lastV y v xs]; rfl
theorem ixN_last (xs : List V) (y : V) : ixN (xs ++ [y]).length (-1) = some xs.length := by
  unfold ixN
  rw [List.length_append]
  show (if (0 : Int) ≤ -1 then _ else if -((xs.length + 1 : Nat) : Int) ≤ -1 then some (-1 + ((xs.length + 1 : Nat) : Int)).toNat else none) = _
  rw [if_neg (by decide), if_pos (by omega)]
  congr 1
  omega
theorem at_m1 (xs : List V) (y : V) : atI (xs ++ [y]) (-1) = some y := by
  unfold atI
  rw [ixN_last]
  show (xs ++ [y])[xs.length]? = some y
  rw [List.getElem?_append_right (Nat.le_refl _), Nat.sub_self]; rfl
theorem drop_lastV (xs : List V) (y : V) : (xs ++ [y]).dropLast = xs := by rw [List.dropLast_append_of_ne_nil (by simp)]; simp
theorem snoc2 {α : Type} {l : List α} (h : 2 ≤ l.length) : ∃ m x y, l = m ++ [x] ++ [y] := by
  rcases List.eq_nil_or_concat l with e | ⟨m, y, e⟩
  · rw [e] at h; simp at h
  · rw [List.concat_eq_append] at e
    subst e
    rcases List.eq_nil_or_concat m with e | ⟨n, x, e⟩
    · rw [e] at h; simp at h
    · exact ⟨n, x, y, by rw [e, List.concat_eq_append]⟩
theorem snoc1 {α : Type} {l : List α} (h : 1 ≤ l.length) : ∃ m y, l = m ++ [y] := by
  rcases List.eq_nil_or_concat l with e | ⟨m, y, e⟩
  · rw [e] at h; simp at h
  · exact ⟨m, y, by rw [e, List.concat_eq_append]⟩
end S
-- deps: D0 D1
/-! ## names: one to eight small letters -/
namespace S
open PySem PySem.Spec PyProof.Rows L2
def lowC (c : Nat) : Prop := 97 ≤ c ∧ c ≤ 122
instance (c : Nat) : Decidable (lowC c) := by unfold lowC; infer_instance
theorem abc_list : ("abcdefghijklmnopqrstuvwxyz" : Str).cps.toList = (List.range 26).map fun i => i + 97 := by decide
theorem abc_mem (c : Nat) : c ∈ ("abcdefghijklmnopqrstuvwxyz" : Str).cps.toList ↔ lowC c := by
  rw [abc_list]
  unfold lowC
  constructor
  · intro h
    obtain ⟨i, hi, rfl⟩ := List.mem_map.mp h
    have := List.mem_range.mp hi
    omega
  · intro h
    exact List.mem_map.mpr ⟨c - 97, List.mem_range.mpr (by omega), by omega⟩
/-- the text is a name of a column -/
def nameOk (z : Str) : Prop := (∀ c ∈ z.cps.toList, lowC c) ∧ 1 ≤ z.cps.size ∧ z.cps.size ≤ 8
instance (z : Str) : Decidable (nameOk z) := by unfold nameOk; infer_instance
theorem nameOk.ok {z : Str} (h : nameOk z) : PyData.strOk z = true := by
  unfold PyData.strOk
  rw [← Array.all_toList]
  exact List.all_eq_true.mpr fun c hc => by have := (h.1 c hc).2; exact decide_eq_true (by omega)
theorem inV_strs (z : Str) : ∀ L : List Str, inV (.str z) (L.map V.str) = decide (z ∈ L)
  | [] => rfl
  | x :: L => by
    show (eqV (.str x) (.str z) || inV (.str z) (L.map V.str)) = _
    rw [inV_strs z L]
    show ((x == z) || _) = _
    by_cases h : x = z
    · subst h; simp
    · have h2 : ¬ z = x := fun e => h e.symm
      simp [h, h2]
theorem flat_strs : ∀ L : List Str, (L.map V.str).all flatV = true
  | [] => rfl
  | _ :: L => by show (true && (L.map V.str).all flatV) = true; rw [flat_strs L]; rfl
end S
-- deps: D0 D1
/-! ## a text of signs joined by nothing -/
namespace S
open PySem PySem.Spec PyProof.Rows L2
theorem txj_app (a y : Str) : (a ++ y).cps.toList = a.cps.toList ++ y.cps.toList := by
  rw [PySem.Str.cps_append, Array.toList_append]
theorem txj_list : ∀ l : List Str, (Txt.join ("" : Str) l).cps.toList = l.flatMap (fun x => x.cps.toList)
  | [] => rfl
  | [x] => by simp [Txt.join]; rfl
  | x :: y :: r => by
    have ih := txj_list (y :: r)
    have e : Txt.join ("" : Str) (x :: y :: r) = x ++ ("" : Str) ++ Txt.join ("" : Str) (y :: r) := by
      show Builtin.Str.glued _ _ = _ ++ Builtin.Str.glued _ _
      rw [StrLaws.glued_eq_join, StrLaws.glued_eq_join]; rfl
    rw [e, txj_app, txj_app, ih]
    show (x.cps.toList ++ []) ++ _ = _
    rw [List.append_nil]; rfl
theorem txj_signs (l : List Nat) : (Txt.join ("" : Str) (l.map fun c => (⟨#[c]⟩ : Str))).cps.toList = l := by
  rw [txj_list]
  induction l with
  | nil => rfl
  | cons c l ih => rw [List.map_cons, List.flatMap_cons, ih]; rfl
end S
namespace S
open PySem PySem.Spec PyProof.Rows L2
def t__law_draw_7 (K : Frag) (E : XK) : TS :=
    tRet (tOp oMod (tCB cInt (tCons (dVar 6) (tNil))) (dVar 2))
def t__law_draw_6 (K : Frag) (E : XK) : TS :=
    tSeq (tAsg (tOp oMod (tCB cInt (tCons (tOp oMulA (dVar 6) (dVar 6)) (tNil))) (tC (.int 999983))) (gName 6))
    (stop (t__law_draw_7 K E))
def t__law_draw_5 (K : Frag) (E : XK) : TS :=
    tSeq (tAsg (tOp oMod (tCB cInt (tCons (tOp (oAdd K) (tOp oMulA (dVar 6) (dVar 6)) (dVar 4)) (tNil))) (tC (.int 1000003))) (gName 6))
    (stop (t__law_draw_6 K E))
def t__law_draw_4 (K : Frag) (E : XK) : TS :=
    tSeq (tAsg (tOp oMod (tCB cInt (tCons (tOp (oAdd K) (tOp oMulA (dVar 4) (tOp (oAdd K) (tOp (oAdd K) (tC (.int 48271)) (tOp oMulA (tC (.int 7919)) (tOp (oIx K) (dVar 1) (tC (.int 1))))) (tOp oMulA (tC (.int 104729)) (tOp (oIx K) (dVar 1) (tC (.int 0)))))) (tOp oMulA (tC (.int 611953)) (tOp (oIx K) (dVar 1) (tC (.int 3))))) (tNil))) (tC (.int 2147483647))) (gName 6))
    (stop (t__law_draw_5 K E))
def t__law_draw_3 (K : Frag) (E : XK) : TS :=
    tSeq (dIfS (dCmpT (oEq K) (tOp (oIx K) (dVar 1) (tC (.int 3))) (tC (.int 2))) (tSeq (tAsg (tOp oFdiv (dVar 4) (tC (.int 1000))) (gSub (dVar 1) (tC (.int 2)) oSet))
    (tSeq (dIfS (dCmpT (oEq K) (tOp (oIx K) (dVar 1) (tC (.int 2))) (tC (.int 0))) (tAsg (tC (.int 0)) (gSub (dVar 1) (tC (.int 1)) oSet)) (tNext))
    (tSeq (tAsg (tOp oMod (tCB cInt (tCons (dVar 4) (tNil))) (tC (.int 1000))) (gName 5))
    (tRet (tOp oMod (tCB cInt (tCons (dVar 5) (tNil))) (dVar 2)))))) (tNext))
    (stop (t__law_draw_4 K E))
def t__law_draw_2 (K : Frag) (E : XK) : TS :=
    tSeq (tAsg (tCB cInt (tCons (tOp (oIx K) (dVar 1) (tC (.int 2))) (tNil))) (gName 4))
    (stop (t__law_draw_3 K E))
def t__law_draw_1 (K : Frag) (E : XK) : TS :=
    tSeq (tAsg (tOp oSub (tOp (oIx K) (dVar 1) (tC (.int 1))) (tC (.int 1))) (gSub (dVar 1) (tC (.int 1)) oSet))
    (stop (t__law_draw_2 K E))
def t__law_draw (K : Frag) (E : XK) : TS :=
    tSeq (dIfS (dCmpT (oEq K) (tOp (oIx K) (dVar 1) (tC (.int 1))) (tC (.int 0))) (tSeq (tAsg (tOp (oIx K) (dVar 1) (tC (.int 0))) (gName 3))
    (tSeq (tAsg (tOp (oAdd K) (dVar 3) (tC (.int 1))) (gSub (dVar 1) (tC (.int 0)) oSet))
    (tSeq (dIfS (dCmpT oGe (dVar 3) (tCB (cLen K) (tCons (dVar 0) (tNil)))) (tRet (tC (.int 0))) (tNext))
    (tSeq (tAsg (tCB cAbs (tCons (tOp (oIx K) (dVar 0) (dVar 3)) (tNil))) (gSub (dVar 1) (tC (.int 2)) oSet))
    (tSeq (tAsg (tCB cInt (tCons (tOp oLt (tOp (oIx K) (dVar 0) (dVar 3)) (tC (.int 0))) (tNil))) (gSub (dVar 1) (tC (.int 3)) oSet))
    (tSeq (tAsg (tC (.int 12)) (gSub (dVar 1) (tC (.int 1)) oSet))
    (dIfS (dCmpT oGe (tOp (oIx K) (dVar 1) (tC (.int 2))) (tOp oPow (tC (.int 10)) (tC (.int 18)))) (tSeq (tAsg (tC (.int 60)) (gSub (dVar 1) (tC (.int 1)) oSet))
    (tAsg (tC (.int 2)) (gSub (dVar 1) (tC (.int 3)) oSet))) (tNext)))))))) (tNext))
    (stop (t__law_draw_1 K E))
end S
-- fn: _law_draw
-- law: k03
-- deps: D0
namespace S
open PySem PySem.Spec PyProof.Rows L2
theorem pure__law_draw {K : Frag} (vs : List V) (H : Hp) (Q : VK) (E : XK) (h : sp__law_draw K vs H Q E) : t__law_draw K E { nx := fun _ H' => Q .non H', rt := Q } (start ["_law_script", "_law_state", "_law_base", "_law_here", "_law_number", "_law_digit", "_law_mixed"] vs) H := by
  obtain ⟨a, st, base, rfl, ⟨⟨ns, hscr⟩, l, hl, A, B, N, k, rfl, hA, hN, hd⟩, hb, q⟩ := h

  have hsl : ∀ H1, SameX st H H1 → SqL K H1 a (ns.map V.int) := fun H1 e => (hscr.x e).sl
  have fin : ∀ (x : Int) (l : List V) (H1 : Hp), SameX st H H1 → H1 st = some (.lst l) → DrawSt l → Q (.int (x % base)) H1 := fun x l H1 e h d =>
    q _ _ (Int.emod_nonneg _ (by omega)) (Int.emod_lt_of_pos _ hb) ⟨⟨ns, hscr.x e⟩, l, h, d⟩ e
  have tail : ∀ (A B N k : Int) (w : Option V) (H' : Hp), 0 ≤ A → 0 ≤ N → (k = 2 ∨ N < 10 ^ 18) → SameX st H H' → H' st = some (.lst [.int A, .int B, .int N, .int k]) →
      t__law_draw_1 K E { nx := fun _ H' => Q .non H', rt := Q } [some (.ref a), some (.ref st), some (.int base), w, none, none, none] H' := by
    intro A B N k w H' hA hN hk hs hl
    have h1000 : 0 ≤ N / 1000 := Int.ediv_nonneg hN (by decide)
    walk_at "gx"
    refine ifd (fun hk2 => ?_) (fun hk2 => ?_)
    · walk_at "gx"
      refine ifd (fun hz => ?_) (fun hz => ?_)
      · walk_at "gx"
        exact fin _ _ _ (hs.trans (SameX.upd.trans (SameX.upd.trans SameX.upd))) upd_same ⟨_, _, _, _, rfl, hA, h1000, .inl rfl⟩
      · walk_at "gx"
        exact fin _ _ _ (hs.trans (SameX.upd.trans SameX.upd)) upd_same ⟨_, _, _, _, rfl, hA, h1000, .inr (.inl hk2)⟩
    · have hN2 : N < 10 ^ 18 := by omega
      walk_at "gx"
      exact fin _ _ _ (hs.trans SameX.upd) upd_same ⟨_, _, _, _, rfl, hA, hN, .inr (.inr hN2)⟩
  walk_at "go"
  refine ifd (fun hB => ?_) (fun hB => ?_)
  · walk_at "go"
    rw [List.length_map]
    refine ifd (fun hlen => ?_) (fun hlen => ?_)
    · exact q 0 _ (Int.le_refl 0) hb ⟨⟨ns, hscr.x SameX.upd⟩, _, upd_same, _, _, _, _, rfl, by omega, hN, hd⟩ SameX.upd
    · obtain ⟨x, hx⟩ := at_ints (ns := ns) hA (by omega)
      walk_at "go"
      refine ifd (fun hbig => ?_) (fun hbig => ?_)
      · walk_at "go"
        exact ⟨tail _ _ _ _ _ _ (by omega) (by omega) (.inl rfl) (SameX.upd.trans (SameX.upd.trans (SameX.upd.trans (SameX.upd.trans (SameX.upd.trans SameX.upd))))) upd_same⟩
      · have hb2 : ¬ ((10 : Int) ^ 18 ≤ x.natAbs) := hbig
        exact ⟨tail _ _ _ _ _ _ (by omega) (by omega) (.inr (by omega)) (SameX.upd.trans (SameX.upd.trans (SameX.upd.trans SameX.upd))) upd_same⟩
  · exact ⟨tail A B N k _ H hA hN (by omega) (SameX.refl _ _) hl⟩
end S
-- deps: D0 D1
/-! ## lists of numbers made, joined, comprehended -/
namespace S
open PySem PySem.Spec PyProof.Rows L2
section
variable {K : Frag} {H : Hp} {Q : VK}
theorem new_ints (ns : List Int) (q : ∀ p H', Same H H' → H p = none → H' p = some (.lst (ns.map V.int)) → Q (.ref p) H') : NewL H (ns.map V.int) Q := ⟨fun p np => q p _ (same_new np) np upd_same⟩
theorem cat_ints {a b : Addr} {xs ys : List Int} (h1 : H a = some (.lst (xs.map V.int))) (h2 : H b = some (.lst (ys.map V.int))) (hz : xs.length + ys.length ≤ 100000) (q : ∀ p H', Same H H' → H p = none → H' p = some (.lst ((xs ++ ys).map V.int)) → Q (.ref p) H') : Cat K H a b Q :=
  Cat.l h1 h2 (by rw [List.length_map, List.length_map, sizeLine_eq]; omega) fun p np => q p _ (same_new np) np (by rw [upd_same, List.map_append])
theorem lc_ints {p : Addr} {g : TG} {tt : TT} {te : TE} {vs : List Nat} {σ : L2.St} (as : List Int) (f : Int → Int) (pr : Int → Bool) (hx : SqA K H p (as.map V.int)) (hz : as.length ≤ 100000)
    (hs : ∀ i H' (A : V → Hp → Prop) (B : Hp → Prop), i ∈ as → Same H H' → (∀ H2, Same H' H2 → pr i = true → A (.int (f i)) H2) → (∀ H2, Same H' H2 → pr i = false → B H2) →
      g (.int i) (wipe σ vs) H' fun σ2 H2 => wipe σ2 vs = wipe σ vs ∧ tt σ2 H2 fun b H3 => if b = true then te σ2 H3 A else B H3)
    (hd : ∀ D H', H D = none → H' D = some (.lst (((as.filter pr).map f).map V.int)) → Same H H' → Q (.ref D) H') : Walk K H p (Wr (LcGo g tt te vs σ Q)) := by
  refine lc_map (fun v => match v with | .int i => .int (f i) | v => v) (fun v => match v with | .int i => pr i | _ => false) hx (by rw [sizeLine_eq, List.length_map]; omega) ?_ fun D H' nD hD e => ?_
  · intro v H1 A B hm e hA hB
    obtain ⟨i, hi, rfl⟩ := List.mem_map.mp hm
    exact hs i H1 A B hi e hA hB
  · rw [map_filter_ints _ _ pr f (fun _ => rfl) (fun _ => rfl)] at hD
    exact hd D H' nD hD e
end
end S
namespace S
open PySem PySem.Spec PyProof.Rows L2
def t__law_names_b2 (K : Frag) (E : XK) : TS :=
    tAsg (tOp (oAdd K) (dVar 6) (tOp (oIx K) (dVar 3) (dCall (sp__law_draw K) (EW E) (tCons (dVar 0) (tCons (dVar 1) (tCons (tC (.int 26)) (tNil))))))) (gName 6)
def t__law_names_b3_1 (K : Frag) (E : XK) : TS :=
    dIfS (dAnd (dCmpT (oEq K) (dVar 9) (tC (.str ""))) (dCmpT (oNin K) (dVar 10) (dVar 4))) (tAsg (dVar 10) (gName 9)) (tNext)
def t__law_names_b3 (K : Frag) (E : XK) : TS :=
    tSeq (tAsg (tOp (oAdd K) (dVar 6) (tOp (oIx K) (dVar 3) (tOp oMod (tCB cInt (tCons (tOp (oAdd K) (dVar 8) (dVar 7)) (tNil))) (tC (.int 26))))) (gName 10))
    (stop (t__law_names_b3_1 K E))
def t__law_names_b1_5 (K : Frag) (E : XK) : TS :=
    tDrop (dML K mApp (dVar 4) (tCons (dVar 9) (tNil)))
def t__law_names_b1_4 (K : Frag) (E : XK) : TS :=
    tSeq (dFor (iRng (tCons (tC (.int 26)) (tNil))) (gName 7) (t__law_names_b3 K E))
    (stop (t__law_names_b1_5 K E))
def t__law_names_b1_3 (K : Frag) (E : XK) : TS :=
    tSeq (tAsg (tC (.str "")) (gName 9))
    (stop (t__law_names_b1_4 K E))
def t__law_names_b1_2 (K : Frag) (E : XK) : TS :=
    tSeq (tAsg (dCall (sp__law_draw K) (EW E) (tCons (dVar 0) (tCons (dVar 1) (tCons (tC (.int 26)) (tNil))))) (gName 8))
    (stop (t__law_names_b1_3 K E))
def t__law_names_b1_1 (K : Frag) (E : XK) : TS :=
    tSeq (dFor (iRng (tCons (dCall (sp__law_draw K) (EW E) (tCons (dVar 0) (tCons (dVar 1) (tCons (tC (.int 8)) (tNil))))) (tNil))) (gName 7) (t__law_names_b2 K E))
    (stop (t__law_names_b1_2 K E))
def t__law_names_b1 (K : Frag) (E : XK) : TS :=
    tSeq (tAsg (tC (.str "")) (gName 6))
    (stop (t__law_names_b1_1 K E))
def t__law_names_3 (K : Frag) (E : XK) : TS :=
    tRet (dVar 4)
def t__law_names_2 (K : Frag) (E : XK) : TS :=
    tSeq (dFor (iRng (tCons (dVar 2) (tNil))) (gName 5) (t__law_names_b1 K E))
    (stop (t__law_names_3 K E))
def t__law_names_1 (K : Frag) (E : XK) : TS :=
    tSeq (tAsg (dLst (tNil)) (gName 4))
    (stop (t__law_names_2 K E))
def t__law_names (K : Frag) (E : XK) : TS :=
    tSeq (tAsg (tC (.str "abcdefghijklmnopqrstuvwxyz")) (gName 3))
    (stop (t__law_names_1 K E))
end S
-- fn: _law_names
-- law: k36
-- deps: Nm Txj _law_draw Li D0 D1
namespace S
open PySem PySem.Spec PyProof.Rows L2
def lowL (i : Nat) : Str := ⟨#[i + 97]⟩
theorem str_ext {x y : Str} (h : x.cps.toList = y.cps.toList) : x = y := by
  cases x; cases y
  congr 1
  exact Array.toList_inj.mp h
theorem word_inj {x : Str} {i j : Nat} (h : x ++ lowL i = x ++ lowL j) : i = j := by
  have e := congrArg (fun z : Str => z.cps.toList) h
  simp only [txj_app] at e
  have e2 := List.append_cancel_left e
  have e3 : [i + 97] = [j + 97] := e2
  injection e3 with e3 _
  omega
theorem word_ok {x : Str} {i : Nat} (hx : ∀ c ∈ x.cps.toList, lowC c) (l : x.cps.size ≤ 7) (hi : i < 26) : nameOk (x ++ lowL i) := by
  have e : (x ++ lowL i).cps.toList = x.cps.toList ++ [i + 97] := txj_app _ _
  have ls : (x ++ lowL i).cps.size = x.cps.size + 1 := by
    rw [← Array.length_toList, e, List.length_append, Array.length_toList]; rfl
  refine ⟨fun c hc => ?_, by omega, by omega⟩
  rw [e] at hc
  rcases List.mem_append.mp hc with hc | hc
  · exact hx c hc
  · rw [List.mem_singleton.mp hc]; unfold lowC; omega
theorem nodup_lenG {α : Type} [DecidableEq α] : ∀ (L S : List α), L.Nodup → (∀ z ∈ L, z ∈ S) → L.length ≤ S.length
  | [], _, _, _ => Nat.zero_le _
  | x :: L, S, nd, hs => by
    obtain ⟨h1, h2⟩ := List.pairwise_cons.mp nd
    have hx := hs x (List.mem_cons_self ..)
    have ih := nodup_lenG L (S.erase x) h2 fun z hz => (List.mem_erase_of_ne (fun e => h1 z hz e.symm)).mpr (hs z (List.mem_cons_of_mem _ hz))
    have e := List.length_erase_of_mem hx
    have := List.length_pos_of_mem hx
    rw [List.length_cons]
    omega
theorem word_new {x : Str} {L : List Str} (t : Nat) (l : L.length < 26) : ∃ j, j < 26 ∧ x ++ lowL ((t + j) % 26) ∉ L := by
  refine Classical.byContradiction fun hn => ?_
  have all : ∀ w ∈ (List.range 26).map (fun j => x ++ lowL ((t + j) % 26)), w ∈ L := fun w hw => by
    obtain ⟨j, hj, rfl⟩ := List.mem_map.mp hw
    exact Classical.byContradiction fun h => hn ⟨j, List.mem_range.mp hj, h⟩
  have nd : ((List.range 26).map (fun j => x ++ lowL ((t + j) % 26))).Nodup := by
    refine List.pairwise_map.mpr ((List.pairwise_lt_range (n := 26)).imp_of_mem fun {a b} ha hb hab => ?_)
    have h1 := List.mem_range.mp ha
    have h2 := List.mem_range.mp hb
    intro e
    have := word_inj e
    omega
  have := nodup_lenG _ _ nd all
  rw [List.length_map, List.length_range] at this
  omega
def sp__law_names (K : Frag) : Sp := fun vs H Q _ => ∃ (a st : Addr) (n : Int), vs = [.ref a, .ref st, .int n] ∧ Ctx K H a st ∧ 0 ≤ n ∧ n ≤ 20 ∧
  ∀ (p : Addr) (L : List Str) (H' : Hp), H p = none → H' p = some (.lst (L.map V.str)) → (L.length : Int) = n → L.Nodup → (∀ z ∈ L, nameOk z) → Ctx K H' a st → SameX st H H' → Q (.ref p) H'
def s36n (a st p : Addr) (n : Int) (k5 k6 k7 k8 k9 k10 : Option V) : L2.St := [some (.ref a), some (.ref st), some (.int n), some (.str "abcdefghijklmnopqrstuvwxyz"), some (.ref p), k5, k6, k7, k8, k9, k10]
theorem pure__law_names {K : Frag} (vs : List V) (H : Hp) (Q : VK) (E : XK) (h : sp__law_names K vs H Q E) : t__law_names K E { nx := fun _ H' => Q .non H', rt := Q } (start ["_law_script", "_law_state", "_law_count", "_law_letters", "_law_names_here", "_law_k", "_law_head", "_law_j", "_law_tail", "_law_name", "_law_word"] vs) H := by
  obtain ⟨a, st, n, rfl, hc, n0, n1, q⟩ := h
  walk_at "gx"
  refine ⟨fun p np => ?_⟩
  have c1 := hc.same (same_new (o := .lst ([] : List V)) np)
  have pst := ctx_ne hc np
  walk_at "gx"
  refine for_rng (fun i σ H3 => ∃ (L : List Str) (k5 k6 k7 k8 k9 k10 : Option V), σ = s36n a st p n k5 k6 k7 k8 k9 k10 ∧ H3 p = some (.lst (L.map V.str)) ∧ L.length = i ∧ L.Nodup ∧ (∀ z ∈ L, nameOk z) ∧ Ctx K H3 a st ∧ SameX st H H3) ⟨[], none, none, none, none, none, none, rfl, upd_same, rfl, .nil, (fun _ z => nomatch z), c1, Same.x (same_new np)⟩ ?_ ?_
  · rintro i σ H3 hi ⟨L, k5, k6, k7, k8, k9, k10, rfl, hL, lL, nd, ok, c3, e3⟩
    walk_at "gx"
    refine ⟨a, st, _, rfl, c3, by decide, fun d H4 d0 d1 c4 e4 => ?_⟩
    have d1 : d < 8 := d1
    have hL4 := e4 _ _ hL pst
    refine Need.mk (by omega) ?_
    show LoopR _ _ _ _ (Itr 0 d.toNat) H4
    refine for_rng (fun j σ H5 => ∃ (x : Str) (k7 : Option V), σ = s36n a st p n (some (.int i)) (some (.str x)) k7 k8 k9 k10 ∧ (∀ c ∈ x.cps.toList, lowC c) ∧ x.cps.size = j ∧ H5 p = some (.lst (L.map V.str)) ∧ Ctx K H5 a st ∧ SameX st H H5) ⟨"", k7, rfl, (fun _ z => nomatch z), rfl, hL4, c4, e3.trans e4⟩ ?_ ?_
    · rintro j σ H5 hj ⟨x, k7, rfl, hx, lx, hL5, c5, e5⟩
      walk_at "gx"
      refine ⟨a, st, _, rfl, c5, by decide, fun r H6 r0 r1 c6 e6 => ?_⟩
      have r1 : r < 26 := r1
      obtain ⟨r, rfl⟩ := Int.eq_ofNat_of_zero_le r0
      refine Need.mk (by rw [sizeLine_eq]; show 26 ≤ 16777216; decide) ?_
      refine ⟨⟨r + 97, ?_, ?_⟩⟩
      · rw [abc_list]
        refine atI_nat (j := r) ?_
        rw [List.getElem?_map, List.getElem?_range (by omega)]; rfl
      have lx2 : x.length = j := lx
      refine Need.mk (by rw [sizeLine_eq, lx2]; show j + 1 ≤ _; omega) ?_
      have ew : (x ++ (⟨#[r + 97]⟩ : Str)).cps.toList = x.cps.toList ++ [r + 97] := txj_app _ _
      refine ⟨x ++ ⟨#[r + 97]⟩, _, rfl, fun c hc => ?_, ?_, e6 _ _ hL5 pst, c6, e5.trans e6⟩
      · rw [ew] at hc
        rcases List.mem_append.mp hc with hc | hc
        · exact hx c hc
        · rw [List.mem_singleton.mp hc]; unfold lowC; omega
      · rw [← Array.length_toList, ew, List.length_append, Array.length_toList, lx]; rfl
    · rintro σ H5 ⟨x, k7, rfl, hx, lx, hL5, c5, e5⟩
      walk_at "gx"
      refine ⟨a, st, _, rfl, c5, by decide, fun r H6 r0 r1 c6 e6 => ?_⟩
      have r1 : r < 26 := r1
      obtain ⟨r, rfl⟩ := Int.eq_ofNat_of_zero_le r0
      have hL6 := e6 _ _ hL5 pst
      have e56 := e5.trans e6
      have lx7 : x.cps.size ≤ 7 := by omega
      walk_at "gx"
      refine for_rng (fun j σ H7 => ∃ (nm : Str) (k7 k10 : Option V), σ = s36n a st p n (some (.int i)) (some (.str x)) k7 (some (.int r)) (some (.str nm)) k10 ∧ H7 = H6 ∧ ((nm = "" ∧ ∀ g, g < j → x ++ lowL ((r + g) % 26) ∈ L) ∨ (nm ∉ L ∧ ∃ g, g < 26 ∧ nm = x ++ lowL g))) ⟨"", k7, k10, rfl, rfl, .inl ⟨rfl, fun g hg => absurd hg (Nat.not_lt_zero _)⟩⟩ ?_ ?_
      · rintro j σ H7 hj ⟨nm, k7, k10, rfl, rfl, hnm⟩
        walk_at "gx"
        have hj : (j : Int) < 26 := hj
        have eq : ((r : Int) + (j : Int)) % 26 = (((r + j) % 26 : Nat) : Int) := by omega
        refine ⟨⟨(r + j) % 26 + 97, ?_, ?_⟩⟩
        · show atI _ (((r : Int) + (j : Int)) % 26) = _
          rw [eq, abc_list]
          refine atI_nat ?_
          rw [List.getElem?_map, List.getElem?_range (Nat.mod_lt _ (by decide))]; rfl
        have lx2 : x.length ≤ 7 := lx7
        refine Need.mk (by rw [sizeLine_eq]; show x.length + 1 ≤ _; omega) ?_
        walk_at "gx"
        refine ifd (fun h1 => ?_) (fun h1 => ?_)
        · walk_at "gx"
          refine Need.mk ⟨rfl, flat_strs _⟩ ?_
          rw [inV_strs]
          refine ifn (fun h2 => ?_) (fun h2 => ?_)
          · exact ⟨_, _, _, rfl, rfl, .inr ⟨h2, (r + j) % 26, Nat.mod_lt _ (by decide), rfl⟩⟩
          · refine ⟨nm, _, _, rfl, rfl, ?_⟩
            rcases hnm with ⟨e, hall⟩ | hnm
            · refine .inl ⟨e, fun g hg => ?_⟩
              rcases Nat.lt_or_ge g j with hgj | hgj
              · exact hall g hgj
              · have : g = j := by omega
                rw [this]; exact h2
            · exact .inr hnm
        · refine ⟨nm, _, _, rfl, rfl, ?_⟩
          rcases hnm with ⟨e, _⟩ | hnm
          · exact absurd e h1
          · exact .inr hnm
      · rintro σ H7 ⟨nm, k7, k10, rfl, rfl, hnm⟩
        have lm : (L.map V.str).length < sizeLine := by rw [List.length_map, sizeLine_eq]; omega
        have hnm2 : nm ∉ L ∧ ∃ g, g < 26 ∧ nm = x ++ lowL g := by
          rcases hnm with ⟨_, hall⟩ | h
          · obtain ⟨j, hj, hn⟩ := word_new (x := x) (L := L) r (by omega)
            exact absurd (hall j hj) hn
          · exact h
        obtain ⟨hn, g, hg, en⟩ := hnm2
        walk_at "gx"
        refine ⟨L ++ [nm], _, _, _, _, _, _, rfl, by rw [upd_same, List.map_append]; rfl, by rw [List.length_append, lL]; rfl, ?_, fun z hz => ?_, c6.mut hc np, ?_⟩
        · refine List.pairwise_append.mpr ⟨nd, List.pairwise_singleton _ _, fun u hu v hv => ?_⟩
          rw [List.mem_singleton.mp hv]
          exact fun z => hn (z ▸ hu)
        · rcases List.mem_append.mp hz with hz | hz
          · exact ok z hz
          · rw [List.mem_singleton.mp hz, en]; exact word_ok hx lx7 hg
        · intro b o hb hn
          rw [upd_ne (ne_of_none hb np)]
          exact e56 _ _ hb hn
  · rintro σ H3 ⟨L, k5, k6, k7, k8, k9, k10, rfl, hL, lL, nd, ok, c3, e3⟩
    walk_at "gx"
    exact q p L H3 np hL (by omega) nd ok c3 e3
end S
-- deps: _law_names Fm2 Fstay
namespace S
open PySem PySem.Spec PyProof.Rows L2
theorem mget1x {α : Type} {g : α → V} {ns : List α} {i : Nat} {x : V} (h : (ns.map g)[i]? = some x) : ∃ y, ns[i]? = some y ∧ x = g y := by
  rw [List.getElem?_map] at h
  cases e : ns[i]? with
  | none => rw [e] at h; cases h
  | some y => rw [e] at h; exact ⟨y, rfl, (Option.some.inj h).symm⟩
theorem sm_put {D : Tms} {z : Str} {c : Int} (h : smT D) (h1 : -(10 ^ 6) ≤ c ∧ c ≤ 10 ^ 6) : smT (putT D z c) := fun t ht => by
  unfold putT at ht
  split at ht
  · obtain ⟨u, hu, rfl⟩ := List.mem_map.mp ht
    split
    · exact h1
    · exact h u hu
  · rcases List.mem_append.mp ht with ht | ht
    · exact h t ht
    · rw [List.mem_singleton.mp ht]; exact h1
theorem sub_put {D : Tms} {z : Str} {c : Int} {L : List Str} (h : ∀ y ∈ nmT D, y ∈ L) (hz : z ∈ L) : ∀ y ∈ nmT (putT D z c), y ∈ L := fun y hy => by
  rw [nm_put] at hy
  split at hy
  · exact h y hy
  · rcases List.mem_append.mp hy with hy | hy
    · exact h y hy
    · rw [List.mem_singleton.mp hy]; exact hz
theorem len_sub {D : Tms} {L : List Str} (nd : (nmT D).Nodup) (h : ∀ y ∈ nmT D, y ∈ L) : D.length ≤ L.length := by
  have := nodup_lenG (nmT D) L nd h
  unfold nmT at this
  rw [List.length_map] at this
  exact this
end S
namespace S
open PySem PySem.Spec PyProof.Rows L2
def t__law_question_b2 (K : Frag) (E : XK) : TS :=
    tAsg (tOp (oIxD K) (dVar 5) (tC (.int 1))) (gSub (dVar 4) (tOp (oIxD K) (dVar 5) (tC (.int 0))) oSetD)
def t__law_question_b1 (K : Frag) (E : XK) : TS :=
    dIfS (dCmpT (oEq K) (tOp (oIxD K) (dVar 2) (tC (.int 0))) (tC (.str "and"))) (tSeq (tAsg (dML K mPop (dVar 1) tNil) (gName 3))
    (tAsg (tOp (oDynB K csT "__and__" (fun _ => sp_Questiondd_anddd K) E oAnd) (tOp (oIxD K) (dVar 1) (tUn uNeg (tC (.int 1)))) (dVar 3)) (gSub (dVar 1) (tUn uNeg (tC (.int 1))) oSetD))) (dIfS (dCmpT (oEq K) (tOp (oIxD K) (dVar 2) (tC (.int 0))) (tC (.str "or"))) (tSeq (tAsg (dML K mPop (dVar 1) tNil) (gName 3))
    (tAsg (tOp (oDynB K csT "__or__" (fun _ => sp_Questiondd_ordd K) E oNo) (tOp (oIxD K) (dVar 1) (tUn uNeg (tC (.int 1)))) (dVar 3)) (gSub (dVar 1) (tUn uNeg (tC (.int 1))) oSetD))) (dIfS (dCmpT (oEq K) (tOp (oIxD K) (dVar 2) (tC (.int 0))) (tC (.str "not"))) (tAsg (tUn (uDyn K csT "__invert__" (fun _ => sp_Questiondd_invertdd K) E) (tOp (oIxD K) (dVar 1) (tUn uNeg (tC (.int 1))))) (gSub (dVar 1) (tUn uNeg (tC (.int 1))) oSetD)) (dIfS (dCmpT (oEq K) (tOp (oIxD K) (dVar 2) (tC (.int 0))) (tC (.str "sure"))) (tAsg (dDyn0 K csT "surely" (fun _ => sp_Question_surely K) (EW E) (tOp (oIxD K) (dVar 1) (tUn uNeg (tC (.int 1))))) (gSub (dVar 1) (tUn uNeg (tC (.int 1))) oSetD)) (dIfS (dCmpT (oEq K) (tOp (oIxD K) (dVar 2) (tC (.int 0))) (tC (.str "twice"))) (tDrop (dML K mApp (dVar 1) (tCons (tOp (oIxD K) (dVar 1) (tUn uNeg (tC (.int 1)))) (tNil)))) (dIfS (dCmpT (oEq K) (tOp (oIxD K) (dVar 2) (tC (.int 0))) (tC (.str "present"))) (tDrop (dML K mApp (dVar 1) (tCons (dGiv (DF K "Present" ["Question"] ["parts", "name"]) (dMake K "Present" (sp_Presentdd_initdd K) (EW E) (tCons (tOp (oIxD K) (dVar 2) (tC (.int 1))) (tNil)))) (tNil)))) (dIfS (dCmpT (oEq K) (tOp (oIxD K) (dVar 2) (tC (.int 0))) (tC (.str "bit"))) (tDrop (dML K mApp (dVar 1) (tCons (dGiv (DF K "HasBit" ["Question"] ["parts", "name", "place"]) (dMake K "HasBit" (sp_HasBitdd_initdd K) (EW E) (tCons (tOp (oIxD K) (dVar 2) (tC (.int 1))) (tCons (tOp (oIxD K) (dVar 2) (tC (.int 2))) (tNil))))) (tNil)))) (tSeq (tAsg (dNewK) (gName 4))
    (tSeq (dFor (iSeq K (tOp (oIxD K) (dVar 2) (tC (.int 1)))) (gName 5) (t__law_question_b2 K E))
    (tDrop (dML K mApp (dVar 1) (tCons (dGiv (DF K "AtMost" ["Question"] ["parts", "terms", "bound"]) (dMake K "AtMost" (sp_AtMostdd_initdd K) (EW E) (tCons (dGiv (CF K "Form" ["offset", "terms"]) (dMake K "Form" (spD (sp_Formdd_initdd K) [V.int 0]) (EW E) (tCons (dVar 4) (tNil)))) (tCons (tOp (oIxD K) (dVar 2) (tC (.int 2))) (tNil))))) (tNil))))))))))))
def t__law_question_2 (K : Frag) (E : XK) : TS :=
    tRet (tOp (oIxD K) (dVar 1) (tUn uNeg (tC (.int 1))))
def t__law_question_1 (K : Frag) (E : XK) : TS :=
    tSeq (dFor (iSeq K (dVar 0)) (gName 2) (t__law_question_b1 K E))
    (stop (t__law_question_2 K E))
def t__law_question (K : Frag) (E : XK) : TS :=
    tSeq (tAsg (dLst (tNil)) (gName 1))
    (stop (t__law_question_1 K E))
end S
-- fn: _law_question
-- law: k41
-- dict: _law_factors
-- dynS: __and__ __or__ __invert__ surely
-- deps: Rcp2 Question_ops Present_init HasBit_init AtMost_init Fkey2 Fstay LastV _law_some_pre
namespace S
open PySem PySem.Spec PyProof.Rows L2
/-- all classes of questions are reached -/
def allC : Prop := inC "AtMost" ∧ inC "Present" ∧ inC "HasBit" ∧ inC "Both" ∧ inC "Either" ∧ inC "Opposite" ∧ inC "Surely"
/-- the question of a recipe (the stack on the heap: the reversed runQ) -/
def sp__law_question (K : Frag) : Sp := fun vs H Q _ => ∃ (B : Hp) (r : Addr) (xs : List Addr) (ss : List Stp) (L : List Str), vs = [.ref r] ∧ allC ∧ H r = some (.lst (xs.map V.ref)) ∧ Paired (fun s x => StA K B H x s) ss xs ∧ okR ss 0 = some 1 ∧ ss.length ≤ 1000 ∧ (∀ s ∈ ss, s.isLeaf = true → s.leaf L) ∧ L.length ≤ 60 ∧
  ∀ (x : Addr) (q : Qs) (H' : Hp), runQ lfQ ss [] = [q] → Same H H' → QA K H' x q → Q (.ref x) H'
theorem okR_at {ss : List Stp} {i : Nat} {s : Stp} (h : okR ss 0 = some 1) (hs : ss[i]? = some s) : okR (s :: ss.drop (i + 1)) (runQ lfQ (ss.take i) []).length = some 1 := by
  have e : ss = ss.take i ++ s :: ss.drop (i + 1) := by
    obtain ⟨l, g⟩ := List.getElem?_eq_some_iff.mp hs
    rw [← g, ← List.drop_eq_getElem_cons l, List.take_append_drop]
  have h2 := h
  rw [e, okR_app] at h2
  obtain ⟨k, hk, h3⟩ := Option.bind_eq_some_iff.mp h2
  rw [runQ_len (lf := lfQ) (ss.take i) [] k hk]
  exact h3
theorem runQ_at {ss : List Stp} {i : Nat} {s : Stp} (hs : ss[i]? = some s) : runQ lfQ (ss.take (i + 1)) [] = stepQ lfQ s (runQ lfQ (ss.take i) []) := by
  rw [List.take_add_one, hs]
  show runQ lfQ (ss.take i ++ [s]) [] = _
  rw [runQ_app]; rfl
theorem pr_snocL {α β : Type} {P : α → β → Prop} {x : α} : ∀ {xs : List α} {ys : List β}, Paired P (xs ++ [x]) ys → ∃ zs y, ys = zs ++ [y] ∧ Paired P xs zs ∧ P x y
  | [], _, .cons h .nil => ⟨[], _, rfl, .nil, h⟩
  | a :: xs, _, .cons h t => by
    obtain ⟨zs, y, e, p, q⟩ := pr_snocL t
    exact ⟨_ :: zs, y, by rw [e]; rfl, .cons h p, q⟩
theorem pr_snocR {α β : Type} {P : α → β → Prop} : ∀ {xs : List α} {ys : List β} {x : α} {y : β}, Paired P xs ys → P x y → Paired P (xs ++ [x]) (ys ++ [y])
  | _, _, _, _, .nil, h => .cons h .nil
  | _, _, _, _, .cons a t, h => .cons a (pr_snocR t h)
theorem pr_atL {α β : Type} {P : α → β → Prop} : ∀ {xs : List α} {ys : List β} {i : Nat} {y : β}, Paired P xs ys → ys[i]? = some y → ∃ x, xs[i]? = some x ∧ P x y
  | _, _, i, _, .nil, h => by simp at h
  | _, _, 0, _, .cons h _, e => by
    rw [List.getElem?_cons_zero] at e
    cases e
    exact ⟨_, rfl, h⟩
  | _, _, i + 1, _, .cons _ t, e => by
    rw [List.getElem?_cons_succ] at e
    obtain ⟨x, hx, hp⟩ := pr_atL t e
    exact ⟨x, by rw [List.getElem?_cons_succ]; exact hx, hp⟩
theorem QA.insm {K : Frag} {H : Hp} {a : Addr} {q : Qs} {p : Prop} (h : QA K H a q) (g : p) : InsM K H csT a p := by
  cases q with
  | atm T b => obtain ⟨d, _, c, dx, p, u, ys, h1, _⟩ := h; exact InsM.of c h1 g
  | prs z => obtain ⟨d, c, dx, p, h1⟩ := h; exact InsM.of c h1 g
  | bit z i => obtain ⟨d, c, dx, p, h1⟩ := h; exact InsM.of c h1 g
  | both q r => obtain ⟨d, c, dx, p, b, b2, h1, _⟩ := h; exact InsM.of c h1 g
  | eith q r => obtain ⟨d, c, dx, p, b, b2, h1, _⟩ := h; exact InsM.of c h1 g
  | opp q => obtain ⟨d, c, dx, p, b, h1, _⟩ := h; exact InsM.of c h1 g
  | sure q => obtain ⟨d, c, dx, p, b, h1, _⟩ := h; exact InsM.of c h1 g
/-- the stack of questions -/
structure Qk (K : Frag) (H W : Hp) (st : Addr) (as : List Addr) (qs : List Qs) : Prop where
  e : Same H W
  hst : W st = some (.lst (as.map V.ref))
  hq : Paired (fun q a => QA K W a q) qs as
section
variable {K : Frag} {H W : Hp} {st : Addr} {as : List Addr} {qs : List Qs}
theorem Qk.same {W' : Hp} (b : Qk K H W st as qs) (e : Same W W') : Qk K H W' st as qs := ⟨b.e.trans e, e _ _ b.hst, Paired.mapP b.hq fun _ _ h => QA.same e h⟩
/-- another stack -/
theorem Qk.put {as' : List Addr} {qs' : List Qs} {l : List V} (b : Qk K H W st as qs) (n : H st = none) (el : l = as'.map V.ref) (hq : Paired (fun q a => QA K W a q) qs' as') : Qk K H (upd W st (.lst l)) st as' qs' := by
  subst el
  exact ⟨Same.mut b.e n, upd_same, Paired.mapP hq fun _ _ h => QA.x SameX.upd b.hst h⟩
theorem Qk.len (b : Qk K H W st as qs) : as.length = qs.length := (Paired.length b.hq).symm
end
theorem pure__law_question {K : Frag} (vs : List V) (H : Hp) (Q : VK) (E : XK) (h : sp__law_question K vs H Q E) : t__law_question K E { nx := fun _ H' => Q .non H', rt := Q } (start ["_law_recipe_here", "_law_stack", "_law_step", "_law_last", "_law_factors", "_law_term"] vs) H := by
  obtain ⟨B, r, xs, ss, L, rfl, ⟨iA, iP, iB, iBo, iE, iO, iS⟩, hr, hS, ok, lss, lf, lL, q⟩ := h
  walk_at "gx"
  refine ⟨fun st nst => ?_⟩
  have f1 := same_new (o := .lst ([] : List V)) nst
  have hst1 : upd H st (.lst ([] : List V)) st = some (.lst []) := upd_same
  generalize upd H st (.lst ([] : List V)) = H1 at *
  walk_at "gx"
  refine for_seq0 (K := K) (fun i σ W => ∃ (as : List Addr) (qs : List Qs) (x2 x3 x4 x5 : Option V), σ = [some (.ref r), some (.ref st), x2, x3, x4, x5] ∧ Qk K H W st as qs ∧ runQ lfQ (ss.take i) [] = qs.reverse ∧ qs.length ≤ i) (.inl (SqL.of hr)) f1 ⟨[], [], _, _, _, _, rfl, ⟨f1, hst1, .nil⟩, rfl, Nat.le_refl _⟩ (fun i σ H' ⟨_, _, _, _, _, _, _, b, _⟩ => b.e) ?_ ?_
  · rintro i v σ W hi ⟨as, qs, x2, x3, x4, x5, rfl, b, hrun, lq⟩
    obtain ⟨x, hx, rfl⟩ := mget1 hi
    obtain ⟨s, hs, hA⟩ := pr_atL hS hx
    have hA := hA.same b.e
    have okA := okR_at ok hs
    have rA := runQ_at hs
    have hleaf := lf s (List.mem_of_getElem? hs)
    rw [hrun] at okA rA
    rw [List.length_reverse] at okA
    have li : i < 1000 := by have := (List.getElem?_eq_some_iff.mp hs).1; omega
    have las := b.len
    have hst := b.hst
    -- the end of each way
    have fin : ∀ {D : L2.Ends} {as' : List Addr} {qs' : List Qs} {W' : Hp} {x3 x4 x5 : Option V}, (D.nx = fun σ W => ∃ (as : List Addr) (qs : List Qs) (x2 x3 x4 x5 : Option V), σ = [some (.ref r), some (.ref st), x2, x3, x4, x5] ∧ Qk K H W st as qs ∧ runQ lfQ (ss.take (i + 1)) [] = qs.reverse ∧ qs.length ≤ i + 1) → Qk K H W' st as' qs' → stepQ lfQ s qs.reverse = qs'.reverse → qs'.length ≤ i + 1 → D.nx [some (.ref r), some (.ref st), some (.ref x), x3, x4, x5] W' := fun e b h1 h2 => by
      rw [e]
      exact ⟨_, _, _, _, _, _, rfl, b, rA.trans h1, h2⟩
    cases s with
    | and =>
      have h2 : 2 ≤ qs.length := by
        by_cases h : 2 ≤ qs.length
        · exact h
        · exfalso
          have okA : (if 2 ≤ qs.length then okR (ss.drop (i + 1)) (qs.length - 1) else none) = some 1 := okA
          rw [if_neg h] at okA; cases okA
      obtain ⟨qs0, q1, q2, rfl⟩ := snoc2 h2
      obtain ⟨as1, a2, rfl, hq1, ha2⟩ := pr_snocL b.hq
      obtain ⟨as0, a1, rfl, hq0, ha1⟩ := pr_snocL hq1
      have hst : W st = some (.lst (((as0 ++ [a1]).map V.ref) ++ [.ref a2])) := by rw [hst, List.map_append]; rfl
      walk_at "gx"
      refine S.At.of (at_m1 _ _) ?_
      rw [drop_lastV]
      dsimp only
      have b1 := b.put (as' := as0 ++ [a1]) (qs' := qs0 ++ [q1]) (l := (as0 ++ [a1]).map V.ref) nst rfl hq1
      have hb2 := QA.x (SameX.upd (o := .lst ((as0 ++ [a1]).map V.ref))) b.hst ha2
      have hb1 := QA.x (SameX.upd (o := .lst ((as0 ++ [a1]).map V.ref))) b.hst ha1
      generalize upd W st (.lst ((as0 ++ [a1]).map V.ref)) = W1 at *
      clear hst
      have h1 : W1 st = some (.lst (as0.map V.ref ++ [.ref a1])) := by rw [b1.hst, List.map_append]; rfl
      walk_at "gx"
      refine S.At.of (at_m1 _ _) ?_
      refine QA.dyn hb1 (by decide) (QA.insm hb2 ?_)
      refine ⟨a1, a2, q1, q2, rfl, iBo, hb1, hb2, fun x1 W2 e2 nx hx1 => ?_⟩
      have b2 := b1.same e2
      obtain ⟨as', y, ey, hq9, _⟩ := pr_snocL b2.hq
      have ey := List.append_inj' ey rfl
      obtain ⟨rfl, ey⟩ := ey
      have h2 := e2 _ _ h1
      walk_at "gx"
      refine Pl.of (ixN_last _ _) ?_
      rw [List.length_map, ← List.length_map (f := V.ref), set_lastV]
      have b3 := b2.put (as' := as0 ++ [x1]) (qs' := qs0 ++ [.both q1 q2]) (l := as0.map V.ref ++ [.ref x1]) nst (by rw [List.map_append]; rfl) (pr_snocR hq9 hx1)
      exact fin rfl b3 (by simp [stepQ]) (by simp at lq ⊢; omega)
    | or =>
      have h2 : 2 ≤ qs.length := by
        by_cases h : 2 ≤ qs.length
        · exact h
        · exfalso
          have okA : (if 2 ≤ qs.length then okR (ss.drop (i + 1)) (qs.length - 1) else none) = some 1 := okA
          rw [if_neg h] at okA; cases okA
      obtain ⟨qs0, q1, q2, rfl⟩ := snoc2 h2
      obtain ⟨as1, a2, rfl, hq1, ha2⟩ := pr_snocL b.hq
      obtain ⟨as0, a1, rfl, hq0, ha1⟩ := pr_snocL hq1
      have hst : W st = some (.lst (((as0 ++ [a1]).map V.ref) ++ [.ref a2])) := by rw [hst, List.map_append]; rfl
      walk_at "gx"
      refine S.At.of (at_m1 _ _) ?_
      rw [drop_lastV]
      dsimp only
      have b1 := b.put (as' := as0 ++ [a1]) (qs' := qs0 ++ [q1]) (l := (as0 ++ [a1]).map V.ref) nst rfl hq1
      have hb2 := QA.x (SameX.upd (o := .lst ((as0 ++ [a1]).map V.ref))) b.hst ha2
      have hb1 := QA.x (SameX.upd (o := .lst ((as0 ++ [a1]).map V.ref))) b.hst ha1
      generalize upd W st (.lst ((as0 ++ [a1]).map V.ref)) = W1 at *
      clear hst
      have h1 : W1 st = some (.lst (as0.map V.ref ++ [.ref a1])) := by rw [b1.hst, List.map_append]; rfl
      walk_at "gx"
      refine S.At.of (at_m1 _ _) ?_
      refine QA.dyn hb1 (by decide) (QA.insm hb2 ?_)
      refine ⟨a1, a2, q1, q2, rfl, iE, hb1, hb2, fun x1 W2 e2 nx hx1 => ?_⟩
      have b2 := b1.same e2
      obtain ⟨as', y, ey, hq9, _⟩ := pr_snocL b2.hq
      have ey := List.append_inj' ey rfl
      obtain ⟨rfl, ey⟩ := ey
      have h2 := e2 _ _ h1
      walk_at "gx"
      refine Pl.of (ixN_last _ _) ?_
      rw [List.length_map, ← List.length_map (f := V.ref), set_lastV]
      have b3 := b2.put (as' := as0 ++ [x1]) (qs' := qs0 ++ [.eith q1 q2]) (l := as0.map V.ref ++ [.ref x1]) nst (by rw [List.map_append]; rfl) (pr_snocR hq9 hx1)
      exact fin rfl b3 (by simp [stepQ]) (by simp at lq ⊢; omega)
    | not =>
      have h1 : 1 ≤ qs.length := by
        by_cases h : 1 ≤ qs.length
        · exact h
        · exfalso
          have okA : (if 1 ≤ qs.length then okR (ss.drop (i + 1)) qs.length else none) = some 1 := okA
          rw [if_neg h] at okA; cases okA
      obtain ⟨qs0, q1, rfl⟩ := snoc1 h1
      obtain ⟨as0, a1, rfl, hq0, ha1⟩ := pr_snocL b.hq
      have hst : W st = some (.lst (as0.map V.ref ++ [.ref a1])) := by rw [hst, List.map_append]; rfl
      walk_at "gx"
      refine S.At.of (at_m1 _ _) ?_
      refine QA.dyn ha1 (by decide) ?_
      refine ⟨a1, q1, rfl, iO, ha1, fun x1 W2 e2 nx hx1 => ?_⟩
      have b2 := b.same e2
      obtain ⟨as', y, ey, hq9, _⟩ := pr_snocL b2.hq
      obtain ⟨rfl, ey⟩ := List.append_inj' ey rfl
      have h2 := e2 _ _ hst
      walk_at "gx"
      refine Pl.of (ixN_last _ _) ?_
      rw [set_lastV]
      have b3 := b2.put (as' := as0 ++ [x1]) (qs' := qs0 ++ [.opp q1]) (l := as0.map V.ref ++ [.ref x1]) nst (by rw [List.map_append]; rfl) (pr_snocR hq9 hx1)
      exact fin rfl b3 (by simp [stepQ]) (by simp at lq ⊢; omega)
    | sure =>
      have h1 : 1 ≤ qs.length := by
        by_cases h : 1 ≤ qs.length
        · exact h
        · exfalso
          have okA : (if 1 ≤ qs.length then okR (ss.drop (i + 1)) qs.length else none) = some 1 := okA
          rw [if_neg h] at okA; cases okA
      obtain ⟨qs0, q1, rfl⟩ := snoc1 h1
      obtain ⟨as0, a1, rfl, hq0, ha1⟩ := pr_snocL b.hq
      have hst : W st = some (.lst (as0.map V.ref ++ [.ref a1])) := by rw [hst, List.map_append]; rfl
      walk_at "gx"
      refine S.At.of (at_m1 _ _) ?_
      refine QA.dyn ha1 (by decide) ?_
      refine ⟨a1, q1, rfl, iS, ha1, fun x1 W2 e2 nx hx1 => ?_⟩
      have b2 := b.same e2
      obtain ⟨as', y, ey, hq9, _⟩ := pr_snocL b2.hq
      obtain ⟨rfl, ey⟩ := List.append_inj' ey rfl
      have h2 := e2 _ _ hst
      walk_at "gx"
      refine Pl.of (ixN_last _ _) ?_
      rw [set_lastV]
      have b3 := b2.put (as' := as0 ++ [x1]) (qs' := qs0 ++ [.sure q1]) (l := as0.map V.ref ++ [.ref x1]) nst (by rw [List.map_append]; rfl) (pr_snocR hq9 hx1)
      exact fin rfl b3 (by simp [stepQ]) (by simp at lq ⊢; omega)
    | twice =>
      have h1 : 1 ≤ qs.length := by
        by_cases h : 1 ≤ qs.length
        · exact h
        · exfalso
          have okA : (if 1 ≤ qs.length then okR (ss.drop (i + 1)) (qs.length + 1) else none) = some 1 := okA
          rw [if_neg h] at okA; cases okA
      obtain ⟨qs0, q1, rfl⟩ := snoc1 h1
      obtain ⟨as0, a1, rfl, hq0, ha1⟩ := pr_snocL b.hq
      have hst : W st = some (.lst (as0.map V.ref ++ [.ref a1])) := by rw [hst, List.map_append]; rfl
      walk_at "gx"
      refine S.At.of (at_m1 _ _) ?_
      refine Ls.of hst (Need.mk (by rw [List.length_append, List.length_map, sizeLine_eq]; simp at lq las; simp; omega) ?_)
      have b3 := b.put (as' := as0 ++ [a1] ++ [a1]) (qs' := qs0 ++ [q1] ++ [q1]) (l := as0.map V.ref ++ [.ref a1] ++ [.ref a1]) nst (by rw [List.map_append, List.map_append]; rfl) (pr_snocR b.hq ha1)
      exact fin rfl b3 (by simp [stepQ]) (by simp at lq ⊢; omega)
    | prs z =>
      walk_at "gx"
      refine fun d => ?_
      refine Rd.st hA (S.At.of rfl ?_)
      refine mk_prs d iP fun x1 _ _ W2 e2 nx _ hx1 => ?_
      have b2 := b.same e2
      refine Ls.of b2.hst (Need.mk (by rw [List.length_map, sizeLine_eq]; omega) ?_)
      have b3 := b2.put (as' := as ++ [x1]) (qs' := qs ++ [.prs z]) (l := as.map V.ref ++ [.ref x1]) nst (by rw [List.map_append]; rfl) (pr_snocR b2.hq hx1)
      exact fin rfl b3 (by simp [stepQ, lfQ]) (by simp at lq ⊢; omega)
    | bit z p =>
      walk_at "gx"
      refine fun d => ?_
      refine Rd.st hA (S.At.of rfl ?_)
      refine Rd.st hA (S.At.of rfl ?_)
      refine mk_bit d iB fun x1 _ _ W2 e2 nx _ hx1 => ?_
      have b2 := b.same e2
      refine Ls.of b2.hst (Need.mk (by rw [List.length_map, sizeLine_eq]; omega) ?_)
      have b3 := b2.put (as' := as ++ [x1]) (qs' := qs ++ [.bit z p]) (l := as.map V.ref ++ [.ref x1]) nst (by rw [List.map_append]; rfl) (pr_snocR b2.hq hx1)
      exact fin rfl b3 (by simp [stepQ, lfQ]) (by simp at lq ⊢; omega)
    | atm T c =>
      obtain ⟨l, ys, hA, _, hl, hC⟩ := hA
      obtain ⟨ndT, inT, smT⟩ := hleaf rfl
      have lT : T.length ≤ 60 := by
        have := len_sub ndT inT
        omega
      walk_at "gx"
      refine ⟨fun d nd => ?_⟩
      have g1 := same_new (o := .dK []) nd
      have hd : upd W d (.dK []) d = some (.dK []) := upd_same
      generalize upd W d (.dK []) = W1 at *
      have hA1 := Same.tup g1 hA
      walk_at "gx"
      refine for_seq0 (K := K) (H0 := W) (fun j σ W' => ∃ (x5 : Option V), σ = [some (.ref r), some (.ref st), some (.ref x), x3, some (.ref d), x5] ∧ Same W W' ∧ W' d = some (.dK (dkI (T.take j)))) (.inl (SqL.of hl)) g1 ⟨_, rfl, g1, by rw [List.take_zero]; exact hd⟩ (fun j σ H' ⟨_, _, e, _⟩ => e) ?_ ?_
      · rintro j v σ W' hj ⟨x5, rfl, e, hd'⟩
        obtain ⟨t, ht, ad, rfl, hv⟩ := cols_atF hC hj
        have hv' := Same.tup e hv
        walk_at "gx"
        refine StD.s hd' (by rw [dkI_len, List.length_take, sizeLine_eq]; omega) ?_
        rw [dkI_put, put_take ndT ht]
        exact ⟨_, rfl, Same.mut e nd, upd_same⟩
      · rintro σ W' ⟨x5, rfl, e, hd'⟩
        rw [← hC.length, List.take_length] at hd'
        have b1 := b.same e
        have hA2 := Same.tup e hA
        walk_at "gx"
        refine IsL.of b1.hst ?_
        refine fun df => ?_
        refine fun cf => ?_
        refine mk_form cf (.inl hd') ndT lT fun T2 f W2 e2 _ sT hT fT => ?_
        have hA3 := Same.tup e2 hA2
        refine Rd.st hA3 (S.At.of rfl ?_)
        have big : ∀ t ∈ T2, -(2 ^ 64) < t.2 ∧ t.2 < 2 ^ 64 := fun t ht => by
          have := lkT_mem sT.nd ht
          rw [hT] at this
          have := smT _ (lkT_some this)
          dsimp only at this
          omega
        refine mk_atm df iA fT big fun x1 W3 e3 _ hx1 => ?_
        have b2 := (b1.same e2).same e3
        refine Ls.of b2.hst (Need.mk (by rw [List.length_map, sizeLine_eq]; omega) ?_)
        have b3 := b2.put (as' := as ++ [x1]) (qs' := qs ++ [.atm T2 (c - 0)]) (l := as.map V.ref ++ [.ref x1]) nst (by rw [List.map_append]; rfl) (pr_snocR b2.hq hx1)
        exact fin rfl b3 (by simp [stepQ, lfQ, srtT_eq sT hT]) (by simp at lq ⊢; omega)
  · rintro σ W ⟨as, qs, x2, x3, x4, x5, rfl, b, hrun, lq⟩
    have lx : (xs.map V.ref).length = ss.length := by rw [List.length_map]; exact (Paired.length hS).symm
    rw [lx, List.take_length] at hrun
    have l1 := runQ_len (lf := lfQ) ss [] 1 ok
    rw [hrun, List.length_reverse] at l1
    obtain ⟨qs0, q1, rfl⟩ := snoc1 (l := qs) (by omega)
    have : qs0 = [] := by
      rw [List.length_append] at l1
      exact List.eq_nil_of_length_eq_zero (by have : [q1].length = 1 := rfl; omega)
    subst this
    obtain ⟨as0, a1, rfl, hq0, ha1⟩ := pr_snocL b.hq
    have hst := b.hst
    rw [List.map_append] at hst
    walk_at "gx"
    refine S.At.of (at_m1 _ _) ?_
    exact q a1 q1 W hrun b.e ha1
end S
-- deps: Rcp2 Rw
/-! ## sorted terms have the value of the unsorted ones; pairs of an answer -/
namespace S
open PySem PySem.Spec PyProof.Rows L2
theorem ex_sortS : ∀ L : List Str, ∃ M : List Str, M.Perm L ∧ M.Pairwise leS
  | [] => ⟨[], .refl _, .nil⟩
  | x :: L => by
    classical
    obtain ⟨M, hp, hs⟩ := ex_sortS L
    refine ⟨M.filter (fun y => decide (leS y x)) ++ x :: M.filter (fun y => !decide (leS y x)), ?_, ?_⟩
    · exact List.perm_middle.trans (.cons x ((List.filter_append_perm _ _).trans hp))
    · refine List.pairwise_append.mpr ⟨hs.filter _, List.pairwise_cons.mpr ⟨fun y hy => ?_, hs.filter _⟩, fun y hy z hz => ?_⟩
      · have := (List.mem_filter.mp hy).2
        have : ¬ leS y x := by simpa using this
        exact (leS_total x y).resolve_right this
      · have h1 : leS y x := by simpa using (List.mem_filter.mp hy).2
        rcases List.mem_cons.mp hz with rfl | hz
        · exact h1
        · have : ¬ leS z x := by simpa using (List.mem_filter.mp hz).2
          exact leS_trans h1 ((leS_total x z).resolve_right this)
theorem srtT_ok {T : Tms} (nd : (nmT T).Nodup) : SoT (srtT T) ∧ ∀ z, lkT (srtT T) z = lkT T z := by
  obtain ⟨M, hp, hs⟩ := ex_sortS (nmT T)
  have so : SoT (trmT T M) := ⟨by rw [trmT_nm]; exact hp.nodup_iff.mpr nd, by rw [trmT_nm]; exact hs⟩
  have lk : ∀ z, lkT (trmT T M) z = lkT T z := fun z => by
    rw [trmT_lk]
    by_cases h : z ∈ M
    · rw [if_pos h]
      obtain ⟨c, hc⟩ := Option.isSome_iff_exists.mp (lkT_is.mpr (hp.mem_iff.mp h))
      rw [hc]; rfl
    · rw [if_neg h]
      exact (lkT_none fun g => h (hp.mem_iff.mpr g)).symm
  rw [srtT_eq so lk]
  exact ⟨so, lk⟩
theorem nodup_mapS {α β : Type} {f : α → β} : ∀ {l : List α}, (l.map f).Nodup → l.Nodup
  | [], _ => .nil
  | x :: l, h => by
    obtain ⟨h1, h2⟩ := List.pairwise_cons.mp h
    exact List.pairwise_cons.mpr ⟨fun y hy e => h1 (f y) (List.mem_map.mpr ⟨y, hy, rfl⟩) (by rw [e]), nodup_mapS h2⟩
theorem perm_lkS {T D : Tms} (nT : (nmT T).Nodup) (nD : (nmT D).Nodup) (e : ∀ z, lkT T z = lkT D z) : T.Perm D := (List.perm_ext_iff_of_nodup (nodup_mapS nT) (nodup_mapS nD)).mpr fun t =>
  ⟨fun h => lkT_some ((e t.1) ▸ lkT_mem nT h), fun h => lkT_some ((e t.1).symm ▸ lkT_mem nD h)⟩
theorem valT_srt {R : Row} {T : Tms} (nd : (nmT T).Nodup) (w : Int) : valT R (srtT T) w = valT R T w := by
  obtain ⟨so, lk⟩ := srtT_ok nd
  exact valT_perm (perm_lkS so.nd nd lk) w
def isT : Option Bool → Bool
  | some true => true
  | _ => false
def isF : Option Bool → Bool
  | some false => true
  | _ => false
/-- an answer as the pair: is it True, is it False -/
def prV (o : Option Bool) : List V := [.bl (isT o), .bl (isF o)]
theorem has_leaf {s : Stp} {L : List Str} (h : s.leaf L) : ∀ z, (lfQ s).has z → z ∈ L := fun z hz => by
  cases s with
  | prs y => rw [show z = y from hz]; exact h
  | bit y p => rw [show z = y from hz]; exact h.1
  | atm T c =>
    have hz : z ∈ nmT (srtT T) := hz
    have := (perm_lkS (srtT_ok h.1).1.nd h.1 (srtT_ok h.1).2).map (fun t => t.1)
    exact h.2.1 z (this.mem_iff.mp hz)
  | _ => exact h.elim
theorem plc_leaf {s : Stp} {L : List Str} (h : s.leaf L) : (lfQ s).plc := by
  cases s with
  | prs y => exact trivial
  | bit y p => exact ⟨h.2.1, h.2.2⟩
  | atm T c => exact trivial
  | _ => exact h.elim
/-- all questions on the stack have a property that the leaves have and that is kept -/
theorem runQ_all {P : Qs → Prop} (hb : ∀ q r, P q → P r → P (.both q r)) (he : ∀ q r, P q → P r → P (.eith q r)) (ho : ∀ q, P q → P (.opp q)) (hs : ∀ q, P q → P (.sure q)) :
    ∀ (ss : List Stp) (st : List Qs), (∀ s ∈ ss, s.isLeaf = true → P (lfQ s)) → (∀ q ∈ st, P q) → ∀ q ∈ runQ lfQ ss st, P q
  | [], st, _, h => h
  | s :: ss, st, hl, h => by
    refine runQ_all hb he ho hs ss _ (fun t ht => hl t (List.mem_cons_of_mem _ ht)) ?_
    have hl := hl s (List.mem_cons_self ..)
    cases s with
    | and => match st, h with
      | [], h => exact h
      | [_], h => exact h
      | r :: q :: st, h => exact fun x hx => (List.mem_cons.mp hx).elim (fun e => e ▸ hb _ _ (h q (by simp)) (h r (by simp))) fun hx => h x (by simp [hx])
    | or => match st, h with
      | [], h => exact h
      | [_], h => exact h
      | r :: q :: st, h => exact fun x hx => (List.mem_cons.mp hx).elim (fun e => e ▸ he _ _ (h q (by simp)) (h r (by simp))) fun hx => h x (by simp [hx])
    | not => match st, h with
      | [], h => exact h
      | q :: st, h => exact fun x hx => (List.mem_cons.mp hx).elim (fun e => e ▸ ho _ (h q (by simp))) fun hx => h x (by simp [hx])
    | sure => match st, h with
      | [], h => exact h
      | q :: st, h => exact fun x hx => (List.mem_cons.mp hx).elim (fun e => e ▸ hs _ (h q (by simp))) fun hx => h x (by simp [hx])
    | twice => match st, h with
      | [], h => exact h
      | q :: st, h => exact fun x hx => (List.mem_cons.mp hx).elim (fun e => e ▸ h q (by simp)) fun hx => h x hx
    | prs z => exact fun x hx => (List.mem_cons.mp hx).elim (fun e => e ▸ hl rfl) fun hx => h x hx
    | bit z p => exact fun x hx => (List.mem_cons.mp hx).elim (fun e => e ▸ hl rfl) fun hx => h x hx
    | atm T b => exact fun x hx => (List.mem_cons.mp hx).elim (fun e => e ▸ hl rfl) fun hx => h x hx
end S
-- deps: Rw
/-! ## rows, built by stores -/
namespace S
open PySem PySem.Spec PyProof.Rows L2
def putR (D : Row) (z : Str) (c : Option Int) : Row := if (lkR D z).isSome then D.map fun t => if t.1 = z then (t.1, c) else t else D ++ [(z, c)]
theorem dkR_put (D : Row) (z : Str) (c : Option Int) : putK (dkR D) (.inr z) (vRow c) = dkR (putR D z c) := by
  have hv := dkR_val z D
  unfold putR
  by_cases h : (lkR D z).isSome
  · rw [if_pos h]
    have ha : ((dkR D).any fun kv => decide (kv.1 = .inr z)) = true := by
      rw [valV_any, hv, Option.isSome_map]; exact h
    unfold putK
    rw [if_pos ha]
    unfold dkR
    rw [List.map_map, List.map_map]
    refine List.map_congr_left fun t _ => ?_
    show (if (Sum.inr t.1 : Key) = .inr z then _ else _) = _
    by_cases e : t.1 = z
    · rw [if_pos (by rw [e])]
      show _ = ((.inr (if t.1 = z then (t.1, c) else t).1 : Key), vRow (if t.1 = z then (t.1, c) else t).2)
      rw [if_pos e]
    · rw [if_neg (fun g => e (Sum.inr.inj g))]
      show _ = ((.inr (if t.1 = z then (t.1, c) else t).1 : Key), vRow (if t.1 = z then (t.1, c) else t).2)
      rw [if_neg e]
  · rw [if_neg h]
    have hn : valV (dkR D) (.inr z) = none := by
      rw [hv]
      cases e : lkR D z with
      | none => rfl
      | some c => rw [e] at h; exact absurd rfl h
    rw [putK_new _ hn]
    unfold dkR
    rw [List.map_append]; rfl
theorem lkR_put_is (D : Row) (z : Str) (c : Option Int) (y : Str) (h : y = z ∨ (lkR D y).isSome) : (lkR (putR D z c) y).isSome := by
  have e := dkR_val y (putR D z c)
  rw [← dkR_put, valV_put] at e
  have e2 := congrArg Option.isSome e
  rw [Option.isSome_map] at e2
  rw [← e2]
  by_cases g : y = z
  · rw [if_pos (by rw [g])]; rfl
  · rw [if_neg (fun k => g (Sum.inr.inj k)), dkR_val, Option.isSome_map]
    exact h.resolve_left g
theorem putR_len (D : Row) (z : Str) (c : Option Int) : (putR D z c).length ≤ D.length + 1 := by
  unfold putR
  split
  · rw [List.length_map]; omega
  · rw [List.length_append]; exact Nat.le_refl _
theorem dkR_len (D : Row) : (dkR D).length = D.length := List.length_map _
end S
namespace S
open PySem PySem.Spec PyProof.Rows L2
theorem vRow_inj {v w : Option Int} (h : vRow v = vRow w) : v = w := by
  cases v <;> cases w <;> first | rfl | cases h; rfl | cases h
theorem lkR_put (D : Row) (z : Str) (c : Option Int) (y : Str) : lkR (putR D z c) y = if y = z then some c else lkR D y := by
  have h := dkR_val y (putR D z c)
  rw [← dkR_put, valV_put] at h
  by_cases e : y = z
  · rw [if_pos (by rw [e])] at h
    rw [if_pos e]
    cases g : lkR (putR D z c) y with
    | none => rw [g] at h; cases h
    | some d =>
      rw [g] at h
      have := vRow_inj (Option.some.inj h)
      rw [this]
  · rw [if_neg (fun g => e (Sum.inr.inj g)), dkR_val] at h
    rw [if_neg e]
    cases g : lkR (putR D z c) y with
    | none => rw [g] at h; cases g2 : lkR D y with | none => rfl | some d => rw [g2] at h; cases h
    | some d => rw [g] at h; cases g2 : lkR D y with | none => rw [g2] at h; cases h | some d2 => rw [g2] at h; rw [vRow_inj (Option.some.inj h)]
end S
namespace S
open PySem PySem.Spec PyProof.Rows L2
def t__law_leaf_truth_b1_1 (K : Frag) (E : XK) : TS :=
    tAsg (tOp (oAdd K) (dVar 3) (tOp oMulA (tOp (oIxD K) (dVar 4) (tC (.int 1))) (tOp (oIxD K) (dVar 1) (tOp (oIxD K) (dVar 4) (tC (.int 0)))))) (gName 3)
def t__law_leaf_truth_b1 (K : Frag) (E : XK) : TS :=
    tSeq (dIfS (dCmpT oIsN (tOp (oIxD K) (dVar 1) (tOp (oIxD K) (dVar 4) (tC (.int 0)))) (tC .non)) (tRet (dTup K (tCons (tC (.bl false)) (tCons (tC (.bl false)) (tNil))))) (tNext))
    (stop (t__law_leaf_truth_b1_1 K E))
def t__law_leaf_truth_3 (K : Frag) (E : XK) : TS :=
    tRet (dTup K (tCons (tOp oLe (dVar 3) (tOp (oIxD K) (dVar 0) (tC (.int 2)))) (tCons (tOp oGt (dVar 3) (tOp (oIxD K) (dVar 0) (tC (.int 2)))) (tNil))))
def t__law_leaf_truth_2 (K : Frag) (E : XK) : TS :=
    tSeq (dFor (iSeq K (tOp (oIxD K) (dVar 0) (tC (.int 1)))) (gName 4) (t__law_leaf_truth_b1 K E))
    (stop (t__law_leaf_truth_3 K E))
def t__law_leaf_truth_1 (K : Frag) (E : XK) : TS :=
    tSeq (tAsg (tC (.int 0)) (gName 3))
    (stop (t__law_leaf_truth_2 K E))
def t__law_leaf_truth (K : Frag) (E : XK) : TS :=
    tSeq (dIfS (dCmpT (oEq K) (tOp (oIxD K) (dVar 0) (tC (.int 0))) (tC (.str "bit"))) (tSeq (dIfS (dCmpT oIsN (tOp (oIxD K) (dVar 1) (tOp (oIxD K) (dVar 0) (tC (.int 1)))) (tC .non)) (tRet (dTup K (tCons (tC (.bl false)) (tCons (tC (.bl false)) (tNil))))) (tNext))
    (tSeq (tAsg (tOp (oEq K) (tOp oAnd (tOp oShr (tOp (oIxD K) (dVar 1) (tOp (oIxD K) (dVar 0) (tC (.int 1)))) (tOp (oIxD K) (dVar 0) (tC (.int 2)))) (tC (.int 1))) (tC (.int 1))) (gName 2))
    (tRet (dTup K (tCons (dVar 2) (tCons (dNotV (dVar 2)) (tNil))))))) (tNext))
    (stop (t__law_leaf_truth_1 K E))
end S
-- fn: _law_leaf_truth
-- law: k42
-- dict: _law_row
-- deps: Stp Rcp2 Srt Rw2 Fstay
namespace S
open PySem PySem.Spec PyProof.Rows L2
def sp__law_leaf_truth (K : Frag) : Sp := fun vs H Q _ => ∃ (B : Hp) (x r : Addr) (s : Stp) (R : Row) (L : List Str), vs = [.ref x, .ref r] ∧ StA K B H x s ∧ s.leaf L ∧ (∀ z, s ≠ .prs z) ∧ L2.Rd H r (.dK (dkR R)) ∧ (∀ z ∈ L, (lkR R z).isSome) ∧
  ∀ t H', Same H H' → SqT K H' t (prV (ans R (lfQ s))) → Q (.ref t) H'
theorem pure__law_leaf_truth {K : Frag} (vs : List V) (H : Hp) (Q : VK) (E : XK) (h : sp__law_leaf_truth K vs H Q E) : t__law_leaf_truth K E { nx := fun _ H' => Q .non H', rt := Q } (start ["_law_step", "_law_row", "_law_hit", "_law_total", "_law_term"] vs) H := by
  obtain ⟨B, x, r, s, R, L, rfl, hA, hl, hn, hr, hin, q⟩ := h
  cases s with
  | bit z i =>
    obtain ⟨zL, i0, i1⟩ := hl
    obtain ⟨e, he⟩ := Option.isSome_iff_exists.mp (hin z zL)
    have q : ∀ t H', Same H H' → SqT K H' t (prV (match lkR R z with | some (some v) => some (decide ((v / 2 ^ i.toNat) % 2 = 1)) | _ => none)) → Q (.ref t) H' := q
    rw [he] at q
    walk_at "gx"
    refine DG.s hr (by rw [dkR_val, he]; rfl) ?_
    cases e with
    | none =>
      refine ⟨rfl, ?_⟩
      refine Need.mk (by rw [sizeLine_eq]; show 2 ≤ 16777216; decide) ⟨fun t H1 e1 ht => ?_⟩
      exact q t H1 e1 ht
    | some v =>
      refine ⟨rfl, ?_⟩
      walk_at "gx"
      refine DG.s hr (by rw [dkR_val, he]; rfl) ?_
      refine Rd.st hA (S.At.of rfl ?_)
      refine Need.mk i0 ?_
      walk_at "gx"
      refine ⟨fun t H1 e1 ht => ?_⟩
      refine q t H1 e1 ?_
      have : prV (some (decide (v / 2 ^ i.toNat % 2 = 1))) = [V.bl (decide (v / 2 ^ i.toNat % 2 = 1)), V.bl (!decide (v / 2 ^ i.toNat % 2 = 1))] := by
        cases decide (v / 2 ^ i.toNat % 2 = 1) <;> rfl
      show SqT K H1 t (prV (some (decide (v / 2 ^ i.toNat % 2 = 1))))
      rw [this]
      have ht : SqT K H1 t [V.bl (decide (Builtin.bitAnd (v / 2 ^ i.toNat) 1 = 1)), V.bl (!decide (Builtin.bitAnd (v / 2 ^ i.toNat) 1 = 1))] := ht
      rw [bitAnd_m1] at ht
      exact ht
  | atm T c =>
    obtain ⟨l, ys, hA, _, hl0, hC⟩ := hA
    obtain ⟨ndT, inT, smT⟩ := hl
    have q : ∀ t H', Same H H' → SqT K H' t (prV ((valT R (srtT T) 0).map fun v => decide (v ≤ c))) → Q (.ref t) H' := q
    rw [valT_srt ndT] at q
    walk_at "gx"
    refine for_seq (K := K) (fun i σ H1 => H1 = H ∧ ∃ (w : Int) (b : Option V), σ = [some (.ref x), some (.ref r), none, some (.int w), b] ∧ valT R T 0 = valT R (T.drop i) w) (.inl (SqL.of hl0)) ⟨rfl, _, _, rfl, rfl⟩ (fun i σ H' _ z => by rw [z.1]; exact Same.stay (Same.refl _)) ?_ ?_
    · rintro i v σ H1 hi ⟨rfl, w, b, rfl, hw⟩
      obtain ⟨t, ht, ad, rfl, hv⟩ := cols_atF hC hi
      have tm := List.mem_of_getElem? ht
      have il : i < T.length := (List.getElem?_eq_some_iff.mp ht).1
      have ed : T.drop i = t :: T.drop (i + 1) := by rw [List.drop_eq_getElem_cons il]; congr 1; exact (List.getElem?_eq_some_iff.mp ht).2
      obtain ⟨e, he⟩ := Option.isSome_iff_exists.mp (hin t.1 (inT t.1 (List.mem_map.mpr ⟨t, tm, rfl⟩)))
      have hg : valV (dkR R) (.inr t.1) = some (vRow e) := by rw [dkR_val, he]; rfl
      rw [ed] at hw
      walk_at "gx"
      refine DG.s hr hg ?_
      cases e with
      | none =>
        have hw : valT R T 0 = none := by
          rw [hw]
          show (match lkR R t.1 with | some (some c) => valT R (T.drop (i + 1)) (w + t.2 * c) | _ => none) = none
          rw [he]
        rw [hw] at q
        refine ⟨rfl, ?_⟩
        refine Need.mk (by rw [sizeLine_eq]; show 2 ≤ 16777216; decide) ⟨fun t H1 e1 ht => ?_⟩
        exact q t H1 e1 ht
      | some v =>
        have hw : valT R T 0 = valT R (T.drop (i + 1)) (w + t.2 * v) := by
          rw [hw]
          show (match lkR R t.1 with | some (some c) => valT R (T.drop (i + 1)) (w + t.2 * c) | _ => none) = _
          rw [he]
        refine ⟨rfl, ?_⟩
        walk_at "gx"
        refine DG.s hr hg ?_
        have := smT t tm
        refine Need.mk (.inl (by omega)) ?_
        exact ⟨rfl, _, _, rfl, hw⟩
    · rintro σ H1 ⟨rfl, w, b, rfl, hw⟩
      rw [← hC.length, List.drop_length] at hw
      walk_at "gx"
      rw [hw] at q
      refine ⟨fun t H1 e1 ht => ?_⟩
      refine q t H1 e1 ?_
      have : prV ((valT R [] w).map fun v => decide (v ≤ c)) = [V.bl (decide (w ≤ c)), V.bl (decide (c < w))] := by
        show [V.bl (isT (some (decide (w ≤ c)))), V.bl (isF (some (decide (w ≤ c))))] = _
        by_cases h : w ≤ c
        · rw [decide_eq_true h, decide_eq_false (by omega)]; rfl
        · rw [decide_eq_false h, decide_eq_true (by omega)]; rfl
      rw [this]
      exact ht
  | prs z => exact absurd rfl (hn z)
  | _ => exact hl.elim
end S
namespace S
open PySem PySem.Spec PyProof.Rows L2
def t__law_truth_b1 (K : Frag) (E : XK) : TS :=
    dIfS (dCmpT (oEq K) (tOp (oIxD K) (dVar 3) (tC (.int 0))) (tC (.str "and"))) (tSeq (tAsg (dML K mPop (dVar 2) tNil) (gName 4))
    (tAsg (dTup K (tCons (dAndV (tOp (oIxD K) (tOp (oIxD K) (dVar 2) (tUn uNeg (tC (.int 1)))) (tC (.int 0))) (tOp (oIxD K) (dVar 4) (tC (.int 0)))) (tCons (dOrV (tOp (oIxD K) (tOp (oIxD K) (dVar 2) (tUn uNeg (tC (.int 1)))) (tC (.int 1))) (tOp (oIxD K) (dVar 4) (tC (.int 1)))) (tNil)))) (gSub (dVar 2) (tUn uNeg (tC (.int 1))) oSetD))) (dIfS (dCmpT (oEq K) (tOp (oIxD K) (dVar 3) (tC (.int 0))) (tC (.str "or"))) (tSeq (tAsg (dML K mPop (dVar 2) tNil) (gName 4))
    (tAsg (dTup K (tCons (dOrV (tOp (oIxD K) (tOp (oIxD K) (dVar 2) (tUn uNeg (tC (.int 1)))) (tC (.int 0))) (tOp (oIxD K) (dVar 4) (tC (.int 0)))) (tCons (dAndV (tOp (oIxD K) (tOp (oIxD K) (dVar 2) (tUn uNeg (tC (.int 1)))) (tC (.int 1))) (tOp (oIxD K) (dVar 4) (tC (.int 1)))) (tNil)))) (gSub (dVar 2) (tUn uNeg (tC (.int 1))) oSetD))) (dIfS (dCmpT (oEq K) (tOp (oIxD K) (dVar 3) (tC (.int 0))) (tC (.str "not"))) (tAsg (dTup K (tCons (tOp (oIxD K) (tOp (oIxD K) (dVar 2) (tUn uNeg (tC (.int 1)))) (tC (.int 1))) (tCons (tOp (oIxD K) (tOp (oIxD K) (dVar 2) (tUn uNeg (tC (.int 1)))) (tC (.int 0))) (tNil)))) (gSub (dVar 2) (tUn uNeg (tC (.int 1))) oSetD)) (dIfS (dCmpT (oEq K) (tOp (oIxD K) (dVar 3) (tC (.int 0))) (tC (.str "sure"))) (tAsg (dTup K (tCons (tOp (oIxD K) (tOp (oIxD K) (dVar 2) (tUn uNeg (tC (.int 1)))) (tC (.int 0))) (tCons (dNotV (tOp (oIxD K) (tOp (oIxD K) (dVar 2) (tUn uNeg (tC (.int 1)))) (tC (.int 0)))) (tNil)))) (gSub (dVar 2) (tUn uNeg (tC (.int 1))) oSetD)) (dIfS (dCmpT (oEq K) (tOp (oIxD K) (dVar 3) (tC (.int 0))) (tC (.str "twice"))) (tDrop (dML K mApp (dVar 2) (tCons (tOp (oIxD K) (dVar 2) (tUn uNeg (tC (.int 1)))) (tNil)))) (dIfS (dCmpT (oEq K) (tOp (oIxD K) (dVar 3) (tC (.int 0))) (tC (.str "present"))) (tDrop (dML K mApp (dVar 2) (tCons (dTup K (tCons (tOp oNotN (tOp (oIxD K) (dVar 1) (tOp (oIxD K) (dVar 3) (tC (.int 1)))) (tC .non)) (tCons (tOp oIsN (tOp (oIxD K) (dVar 1) (tOp (oIxD K) (dVar 3) (tC (.int 1)))) (tC .non)) (tNil)))) (tNil)))) (tDrop (dML K mApp (dVar 2) (tCons (dCall (sp__law_leaf_truth K) (EW E) (tCons (dVar 3) (tCons (dVar 1) (tNil)))) (tNil)))))))))
def t__law_truth_4 (K : Frag) (E : XK) : TS :=
    tRet (tC .non)
def t__law_truth_3 (K : Frag) (E : XK) : TS :=
    tSeq (dIfS (dTest K (tOp (oIxD K) (tOp (oIxD K) (dVar 2) (tUn uNeg (tC (.int 1)))) (tC (.int 1)))) (tRet (tC (.bl false))) (tNext))
    (stop (t__law_truth_4 K E))
def t__law_truth_2 (K : Frag) (E : XK) : TS :=
    tSeq (dIfS (dTest K (tOp (oIxD K) (tOp (oIxD K) (dVar 2) (tUn uNeg (tC (.int 1)))) (tC (.int 0)))) (tRet (tC (.bl true))) (tNext))
    (stop (t__law_truth_3 K E))
def t__law_truth_1 (K : Frag) (E : XK) : TS :=
    tSeq (dFor (iSeq K (dVar 0)) (gName 3) (t__law_truth_b1 K E))
    (stop (t__law_truth_2 K E))
def t__law_truth (K : Frag) (E : XK) : TS :=
    tSeq (tAsg (dLst (tNil)) (gName 2))
    (stop (t__law_truth_1 K E))
end S
-- fn: _law_truth
-- law: k42
-- dict: _law_row
-- deps: _law_leaf_truth LastV Rcp2 Srt Fstay
namespace S
open PySem PySem.Spec PyProof.Rows L2
/-- the law's own answer of a recipe -/
def sp__law_truth (K : Frag) : Sp := fun vs H Q _ => ∃ (B : Hp) (r rw_ : Addr) (xs : List Addr) (ss : List Stp) (L : List Str) (R : Row) (q : Qs), vs = [.ref r, .ref rw_] ∧ H r = some (.lst (xs.map V.ref)) ∧ Paired (fun s x => StA K B H x s) ss xs ∧ okR ss 0 = some 1 ∧ ss.length ≤ 1000 ∧ (∀ s ∈ ss, s.isLeaf = true → s.leaf L) ∧ L2.Rd H rw_ (.dK (dkR R)) ∧ (∀ z ∈ L, (lkR R z).isSome) ∧ runQ lfQ ss [] = [q] ∧
  ∀ (H' : Hp), Same H H' → Q (vT (ans R q)) H'
theorem okR_atT {ss : List Stp} {i : Nat} {s : Stp} (h : okR ss 0 = some 1) (hs : ss[i]? = some s) : okR (s :: ss.drop (i + 1)) (runQ lfQ (ss.take i) []).length = some 1 := by
  have e : ss = ss.take i ++ s :: ss.drop (i + 1) := by
    obtain ⟨l, g⟩ := List.getElem?_eq_some_iff.mp hs
    rw [← g, ← List.drop_eq_getElem_cons l, List.take_append_drop]
  have h2 := h
  rw [e, okR_app] at h2
  obtain ⟨k, hk, h3⟩ := Option.bind_eq_some_iff.mp h2
  rw [runQ_len (lf := lfQ) (ss.take i) [] k hk]
  exact h3
theorem runQ_atT {ss : List Stp} {i : Nat} {s : Stp} (hs : ss[i]? = some s) : runQ lfQ (ss.take (i + 1)) [] = stepQ lfQ s (runQ lfQ (ss.take i) []) := by
  rw [List.take_add_one, hs]
  show runQ lfQ (ss.take i ++ [s]) [] = _
  rw [runQ_app]; rfl
theorem pr_snocLT {α β : Type} {P : α → β → Prop} {x : α} : ∀ {xs : List α} {ys : List β}, Paired P (xs ++ [x]) ys → ∃ zs y, ys = zs ++ [y] ∧ Paired P xs zs ∧ P x y
  | [], _, .cons h .nil => ⟨[], _, rfl, .nil, h⟩
  | a :: xs, _, .cons h t => by
    obtain ⟨zs, y, e, p, q⟩ := pr_snocLT t
    exact ⟨_ :: zs, y, by rw [e]; rfl, .cons h p, q⟩
theorem pr_snocRT {α β : Type} {P : α → β → Prop} : ∀ {xs : List α} {ys : List β} {x : α} {y : β}, Paired P xs ys → P x y → Paired P (xs ++ [x]) (ys ++ [y])
  | _, _, _, _, .nil, h => .cons h .nil
  | _, _, _, _, .cons a t, h => .cons a (pr_snocRT t h)
theorem pr_atLT {α β : Type} {P : α → β → Prop} : ∀ {xs : List α} {ys : List β} {i : Nat} {y : β}, Paired P xs ys → ys[i]? = some y → ∃ x, xs[i]? = some x ∧ P x y
  | _, _, i, _, .nil, h => by simp at h
  | _, _, 0, _, .cons h _, e => by
    rw [List.getElem?_cons_zero] at e
    cases e
    exact ⟨_, rfl, h⟩
  | _, _, i + 1, _, .cons _ t, e => by
    rw [List.getElem?_cons_succ] at e
    obtain ⟨x, hx, hp⟩ := pr_atLT t e
    exact ⟨x, by rw [List.getElem?_cons_succ]; exact hx, hp⟩
/-- the stack of pairs -/
structure Tk (K : Frag) (H W : Hp) (R : Row) (st : Addr) (as : List Addr) (qs : List Qs) : Prop where
  e : Same H W
  hst : W st = some (.lst (as.map V.ref))
  hq : Paired (fun q a => SqT K W a (prV (ans R q))) qs as
section
variable {K : Frag} {H W : Hp} {R : Row} {st : Addr} {as : List Addr} {qs : List Qs}
theorem Tk.same {W' : Hp} (b : Tk K H W R st as qs) (e : Same W W') : Tk K H W' R st as qs := ⟨b.e.trans e, e _ _ b.hst, Paired.mapP b.hq fun _ _ h => Same.tup e h⟩
theorem Tk.put {as' : List Addr} {qs' : List Qs} {l : List V} (b : Tk K H W R st as qs) (n : H st = none) (el : l = as'.map V.ref) (hq : Paired (fun q a => SqT K W a (prV (ans R q))) qs' as') : Tk K H (upd W st (.lst l)) R st as' qs' := by
  subst el
  exact ⟨Same.mut b.e n, upd_same, Paired.mapP hq fun _ _ h => (SameX.upd (st := st)).tup h b.hst⟩
theorem Tk.len (b : Tk K H W R st as qs) : as.length = qs.length := (Paired.length b.hq).symm
end
theorem pr_and (q r : Option Bool) : prV (ansB q r) = [.bl (isT q && isT r), .bl (isF q || isF r)] := by
  rcases q with _ | _ | _ <;> rcases r with _ | _ | _ <;> rfl
theorem pr_or (q r : Option Bool) : prV (ansE q r) = [.bl (isT q || isT r), .bl (isF q && isF r)] := by
  rcases q with _ | _ | _ <;> rcases r with _ | _ | _ <;> rfl
theorem pr_not (q : Option Bool) : prV (ansO q) = [.bl (isF q), .bl (isT q)] := by
  rcases q with _ | _ | _ <;> rfl
theorem pr_sure (q : Option Bool) : prV (ansS q) = [.bl (isT q), .bl (!isT q)] := by
  rcases q with _ | _ | _ <;> rfl
theorem pure__law_truth {K : Frag} (vs : List V) (H : Hp) (Q : VK) (E : XK) (h : sp__law_truth K vs H Q E) : t__law_truth K E { nx := fun _ H' => Q .non H', rt := Q } (start ["_law_recipe_here", "_law_row", "_law_stack", "_law_step", "_law_last"] vs) H := by
  obtain ⟨B, r, rw_, xs, ss, L, R, q0, rfl, hr, hS, ok, lss, lf, hrow, hin, hq0, q⟩ := h
  walk_at "gx"
  refine ⟨fun st nst => ?_⟩
  have f1 := same_new (o := .lst ([] : List V)) nst
  have hst1 : upd H st (.lst ([] : List V)) st = some (.lst []) := upd_same
  generalize upd H st (.lst ([] : List V)) = H1 at *
  walk_at "gx"
  refine for_seq0 (K := K) (fun i σ W => ∃ (as : List Addr) (qs : List Qs) (x3 x4 : Option V), σ = [some (.ref r), some (.ref rw_), some (.ref st), x3, x4] ∧ Tk K H W R st as qs ∧ runQ lfQ (ss.take i) [] = qs.reverse ∧ qs.length ≤ i) (.inl (SqL.of hr)) f1 ⟨[], [], _, _, rfl, ⟨f1, hst1, .nil⟩, rfl, Nat.le_refl _⟩ (fun i σ H' ⟨_, _, _, _, _, b, _⟩ => b.e) ?_ ?_
  · rintro i v σ W hi ⟨as, qs, x3, x4, rfl, b, hrun, lq⟩
    obtain ⟨x, hx, rfl⟩ := mget1 hi
    obtain ⟨s, hs, hA⟩ := pr_atLT hS hx
    have hA := hA.same b.e
    have okA := okR_atT ok hs
    have rA := runQ_atT hs
    have hleaf := lf s (List.mem_of_getElem? hs)
    rw [hrun] at okA rA
    rw [List.length_reverse] at okA
    have li : i < 1000 := by have := (List.getElem?_eq_some_iff.mp hs).1; omega
    have las := b.len
    have hst := b.hst
    have hrow := Rd.sm hrow b.e
    have fin : ∀ {D : L2.Ends} {as' : List Addr} {qs' : List Qs} {W' : Hp} {x4 : Option V}, (D.nx = fun σ W => ∃ (as : List Addr) (qs : List Qs) (x3 x4 : Option V), σ = [some (.ref r), some (.ref rw_), some (.ref st), x3, x4] ∧ Tk K H W R st as qs ∧ runQ lfQ (ss.take (i + 1)) [] = qs.reverse ∧ qs.length ≤ i + 1) → Tk K H W' R st as' qs' → stepQ lfQ s qs.reverse = qs'.reverse → qs'.length ≤ i + 1 → D.nx [some (.ref r), some (.ref rw_), some (.ref st), some (.ref x), x4] W' := fun e b h1 h2 => by
      rw [e]
      exact ⟨_, _, _, _, rfl, b, rA.trans h1, h2⟩
    dsimp only [gName]
    generalize eD : ({ nx := _, ct := _, bk := _, .. } : L2.Ends) = D
    have eD := congrArg L2.Ends.nx eD.symm
    dsimp only at eD
    cases s with
    | and =>
      have h2 : 2 ≤ qs.length := by
        by_cases h : 2 ≤ qs.length
        · exact h
        · exfalso
          have okA : (if 2 ≤ qs.length then okR (ss.drop (i + 1)) (qs.length - 1) else none) = some 1 := okA
          rw [if_neg h] at okA; cases okA
      obtain ⟨qs0, q1, q2, rfl⟩ := snoc2 h2
      obtain ⟨as1, a2, rfl, hq1, ha2⟩ := pr_snocLT b.hq
      obtain ⟨as0, a1, rfl, hq0, ha1⟩ := pr_snocLT hq1
      have hst : W st = some (.lst (((as0 ++ [a1]).map V.ref) ++ [.ref a2])) := by rw [hst, List.map_append]; rfl
      walk_at "gx"
      refine S.At.of (at_m1 _ _) ?_
      rw [drop_lastV]
      dsimp only
      have b1 := b.put (as' := as0 ++ [a1]) (qs' := qs0 ++ [q1]) (l := (as0 ++ [a1]).map V.ref) nst rfl hq1
      have g1 : SameX st W (upd W st (.lst ((as0 ++ [a1]).map V.ref))) := SameX.upd
      have hb2 := g1.tup ha2 b.hst
      have hb1 := g1.tup ha1 b.hst
      generalize upd W st (.lst ((as0 ++ [a1]).map V.ref)) = W1 at *
      clear hst
      have h1 : W1 st = some (.lst (as0.map V.ref ++ [.ref a1])) := by rw [b1.hst, List.map_append]; rfl
      have last : ∀ (t : Addr) (W2 : Hp), Same W1 W2 → SqT K W2 t [.bl (isT (ans R q1) && isT (ans R q2)), .bl (isF (ans R q1) || isF (ans R q2))] → Ls W2 st fun xs => Pl xs.length (-1) fun j => D.nx [some (.ref r), some (.ref rw_), some (.ref st), some (.ref x), some (.ref a2)] (upd W2 st (.lst (xs.set j (.ref t)))) := fun t W2 e2 ht => by
        rw [← pr_and] at ht
        have b2 := b1.same e2
        obtain ⟨as', y, ey, hq9, _⟩ := pr_snocLT b2.hq
        obtain ⟨rfl, ey⟩ := List.append_inj' ey rfl
        refine Ls.of (e2 _ _ h1) (Pl.of (ixN_last _ _) ?_)
        rw [set_lastV]
        have b3 := b2.put (as' := as0 ++ [t]) (qs' := qs0 ++ [.both q1 q2]) (l := as0.map V.ref ++ [.ref t]) nst (by rw [List.map_append]; rfl) (pr_snocRT (x := .both q1 q2) (P := fun q a => SqT K W2 a (prV (ans R q))) hq9 ht)
        exact fin eD b3 (by simp [stepQ]) (by simp at lq ⊢; omega)
      have two : 2 ≤ sizeLine := by rw [sizeLine_eq]; decide
      unfold prV at hb1 hb2
      generalize ans R q1 = o1 at hb1 last
      generalize ans R q2 = o2 at hb2 last
      walk_at "gx"
      rcases o1 with _ | _ | _ <;> rcases o2 with _ | _ | _ <;>
        (repeat (first | walk_at "rd" | refine S.At.of (at_m1 _ _) ?_)) <;>
        exact ⟨fun t W2 e2 ht => last t W2 e2 ht⟩
    | or =>
      have h2 : 2 ≤ qs.length := by
        by_cases h : 2 ≤ qs.length
        · exact h
        · exfalso
          have okA : (if 2 ≤ qs.length then okR (ss.drop (i + 1)) (qs.length - 1) else none) = some 1 := okA
          rw [if_neg h] at okA; cases okA
      obtain ⟨qs0, q1, q2, rfl⟩ := snoc2 h2
      obtain ⟨as1, a2, rfl, hq1, ha2⟩ := pr_snocLT b.hq
      obtain ⟨as0, a1, rfl, hq0, ha1⟩ := pr_snocLT hq1
      have hst : W st = some (.lst (((as0 ++ [a1]).map V.ref) ++ [.ref a2])) := by rw [hst, List.map_append]; rfl
      walk_at "gx"
      refine S.At.of (at_m1 _ _) ?_
      rw [drop_lastV]
      dsimp only
      have b1 := b.put (as' := as0 ++ [a1]) (qs' := qs0 ++ [q1]) (l := (as0 ++ [a1]).map V.ref) nst rfl hq1
      have g1 : SameX st W (upd W st (.lst ((as0 ++ [a1]).map V.ref))) := SameX.upd
      have hb2 := g1.tup ha2 b.hst
      have hb1 := g1.tup ha1 b.hst
      generalize upd W st (.lst ((as0 ++ [a1]).map V.ref)) = W1 at *
      clear hst
      have h1 : W1 st = some (.lst (as0.map V.ref ++ [.ref a1])) := by rw [b1.hst, List.map_append]; rfl
      have last : ∀ (t : Addr) (W2 : Hp), Same W1 W2 → SqT K W2 t [.bl (isT (ans R q1) || isT (ans R q2)), .bl (isF (ans R q1) && isF (ans R q2))] → Ls W2 st fun xs => Pl xs.length (-1) fun j => D.nx [some (.ref r), some (.ref rw_), some (.ref st), some (.ref x), some (.ref a2)] (upd W2 st (.lst (xs.set j (.ref t)))) := fun t W2 e2 ht => by
        rw [← pr_or] at ht
        have b2 := b1.same e2
        obtain ⟨as', y, ey, hq9, _⟩ := pr_snocLT b2.hq
        obtain ⟨rfl, ey⟩ := List.append_inj' ey rfl
        refine Ls.of (e2 _ _ h1) (Pl.of (ixN_last _ _) ?_)
        rw [set_lastV]
        have b3 := b2.put (as' := as0 ++ [t]) (qs' := qs0 ++ [.eith q1 q2]) (l := as0.map V.ref ++ [.ref t]) nst (by rw [List.map_append]; rfl) (pr_snocRT (x := .eith q1 q2) (P := fun q a => SqT K W2 a (prV (ans R q))) hq9 ht)
        exact fin eD b3 (by simp [stepQ]) (by simp at lq ⊢; omega)
      have two : 2 ≤ sizeLine := by rw [sizeLine_eq]; decide
      unfold prV at hb1 hb2
      generalize ans R q1 = o1 at hb1 last
      generalize ans R q2 = o2 at hb2 last
      walk_at "gx"
      rcases o1 with _ | _ | _ <;> rcases o2 with _ | _ | _ <;>
        (repeat (first | walk_at "rd" | refine S.At.of (at_m1 _ _) ?_)) <;>
        exact ⟨fun t W2 e2 ht => last t W2 e2 ht⟩
    | not =>
      have h1 : 1 ≤ qs.length := by
        by_cases h : 1 ≤ qs.length
        · exact h
        · exfalso
          have okA : (if 1 ≤ qs.length then okR (ss.drop (i + 1)) qs.length else none) = some 1 := okA
          rw [if_neg h] at okA; cases okA
      obtain ⟨qs0, q1, rfl⟩ := snoc1 h1
      obtain ⟨as0, a1, rfl, hq0, ha1⟩ := pr_snocLT b.hq
      have hst : W st = some (.lst (as0.map V.ref ++ [.ref a1])) := by rw [hst, List.map_append]; rfl
      have two : 2 ≤ sizeLine := by rw [sizeLine_eq]; decide
      walk_at "gx"
      refine S.At.of (at_m1 _ _) ?_
      refine Rd.st ha1 (S.At.of rfl ?_)
      first | refine S.At.of (at_m1 _ _) ?_ | refine Rd.l hst (S.At.of (at_m1 _ _) ?_)
      (repeat (first | walk_at "rd" | refine S.At.of (at_m1 _ _) ?_))
      refine ⟨fun t W2 e2 ht => ?_⟩
      have ht : SqT K W2 t (prV (ansO (ans R q1))) := by rw [pr_not]; exact ht
      have b2 := b.same e2
      obtain ⟨as', y, ey, hq9, _⟩ := pr_snocLT b2.hq
      obtain ⟨rfl, ey⟩ := List.append_inj' ey rfl
      refine Ls.of (e2 _ _ hst) (Pl.of (ixN_last _ _) ?_)
      rw [set_lastV]
      have b3 := b2.put (as' := as0 ++ [t]) (qs' := qs0 ++ [.opp q1]) (l := as0.map V.ref ++ [.ref t]) nst (by rw [List.map_append]; rfl) (pr_snocRT (x := .opp q1) (P := fun q a => SqT K W2 a (prV (ans R q))) hq9 ht)
      exact fin eD b3 (by simp [stepQ]) (by simp at lq ⊢; omega)
    | sure =>
      have h1 : 1 ≤ qs.length := by
        by_cases h : 1 ≤ qs.length
        · exact h
        · exfalso
          have okA : (if 1 ≤ qs.length then okR (ss.drop (i + 1)) qs.length else none) = some 1 := okA
          rw [if_neg h] at okA; cases okA
      obtain ⟨qs0, q1, rfl⟩ := snoc1 h1
      obtain ⟨as0, a1, rfl, hq0, ha1⟩ := pr_snocLT b.hq
      have hst : W st = some (.lst (as0.map V.ref ++ [.ref a1])) := by rw [hst, List.map_append]; rfl
      have two : 2 ≤ sizeLine := by rw [sizeLine_eq]; decide
      walk_at "gx"
      refine S.At.of (at_m1 _ _) ?_
      refine Rd.st ha1 (S.At.of rfl ?_)
      first | refine S.At.of (at_m1 _ _) ?_ | refine Rd.l hst (S.At.of (at_m1 _ _) ?_)
      (repeat (first | walk_at "rd" | refine S.At.of (at_m1 _ _) ?_))
      refine ⟨fun t W2 e2 ht => ?_⟩
      have ht : SqT K W2 t (prV (ansS (ans R q1))) := by rw [pr_sure]; exact ht
      have b2 := b.same e2
      obtain ⟨as', y, ey, hq9, _⟩ := pr_snocLT b2.hq
      obtain ⟨rfl, ey⟩ := List.append_inj' ey rfl
      refine Ls.of (e2 _ _ hst) (Pl.of (ixN_last _ _) ?_)
      rw [set_lastV]
      have b3 := b2.put (as' := as0 ++ [t]) (qs' := qs0 ++ [.sure q1]) (l := as0.map V.ref ++ [.ref t]) nst (by rw [List.map_append]; rfl) (pr_snocRT (x := .sure q1) (P := fun q a => SqT K W2 a (prV (ans R q))) hq9 ht)
      exact fin eD b3 (by simp [stepQ]) (by simp at lq ⊢; omega)
    | twice =>
      have h1 : 1 ≤ qs.length := by
        by_cases h : 1 ≤ qs.length
        · exact h
        · exfalso
          have okA : (if 1 ≤ qs.length then okR (ss.drop (i + 1)) (qs.length + 1) else none) = some 1 := okA
          rw [if_neg h] at okA; cases okA
      obtain ⟨qs0, q1, rfl⟩ := snoc1 h1
      obtain ⟨as0, a1, rfl, hq0, ha1⟩ := pr_snocLT b.hq
      have hst : W st = some (.lst (as0.map V.ref ++ [.ref a1])) := by rw [hst, List.map_append]; rfl
      walk_at "gx"
      refine S.At.of (at_m1 _ _) ?_
      refine Ls.of hst (Need.mk (by rw [List.length_append, List.length_map, sizeLine_eq]; simp at lq las; simp; omega) ?_)
      have b3 := b.put (as' := as0 ++ [a1] ++ [a1]) (qs' := qs0 ++ [q1] ++ [q1]) (l := as0.map V.ref ++ [.ref a1] ++ [.ref a1]) nst (by rw [List.map_append, List.map_append]; rfl) (pr_snocRT b.hq ha1)
      exact fin eD b3 (by simp [stepQ]) (by simp at lq ⊢; omega)
    | prs z =>
      obtain ⟨e, he⟩ := Option.isSome_iff_exists.mp (hin z (hleaf rfl))
      have two : 2 ≤ sizeLine := by rw [sizeLine_eq]; decide
      walk_at "gx"
      refine DG.s hrow (by rw [dkR_val, he]; rfl) ?_
      have ea : ans R (lfQ (.prs z)) = some e.isSome := by
        show some (match lkR R z with | some (some _) => true | _ => false) = _
        rw [he]; cases e <;> rfl
      have done : ∀ t W2, Same W W2 → SqT K W2 t (prV (some e.isSome)) → Ls W2 st fun xs => Need (xs.length < sizeLine) (D.nx [some (.ref r), some (.ref rw_), some (.ref st), some (.ref x), x4] (upd W2 st (.lst (xs ++ [.ref t])))) := fun t W2 e2 ht => by
        rw [← ea] at ht
        have b2 := b.same e2
        refine Ls.of b2.hst (Need.mk (by rw [List.length_map, sizeLine_eq]; omega) ?_)
        have b3 := b2.put (as' := as ++ [t]) (qs' := qs ++ [lfQ (.prs z)]) (l := as.map V.ref ++ [.ref t]) nst (by rw [List.map_append]; rfl) (pr_snocRT b2.hq ht)
        exact fin eD b3 (by simp [stepQ]) (by simp at lq ⊢; omega)
      cases e with
      | none =>
        refine ⟨rfl, ?_⟩
        walk_at "gx"
        refine DG.s hrow (by rw [dkR_val, he]; rfl) ?_
        refine ⟨rfl, ?_⟩
        walk_at "gx"
        exact ⟨fun t W2 e2 ht => done t W2 e2 ht⟩
      | some v =>
        refine ⟨rfl, ?_⟩
        walk_at "gx"
        refine DG.s hrow (by rw [dkR_val, he]; rfl) ?_
        refine ⟨rfl, ?_⟩
        walk_at "gx"
        exact ⟨fun t W2 e2 ht => done t W2 e2 ht⟩
    | bit z p =>
      have hA0 := hA
      walk_at "gx"
      refine ⟨B, x, rw_, .bit z p, R, L, rfl, hA0, hleaf rfl, (fun _ z => nomatch z), hrow, hin, fun t W2 e2 ht => ?_⟩
      have b2 := b.same e2
      refine Ls.of b2.hst (Need.mk (by rw [List.length_map, sizeLine_eq]; omega) ?_)
      have b3 := b2.put (as' := as ++ [t]) (qs' := qs ++ [lfQ (.bit z p)]) (l := as.map V.ref ++ [.ref t]) nst (by rw [List.map_append]; rfl) (pr_snocRT b2.hq ht)
      exact fin eD b3 (by simp [stepQ]) (by simp at lq ⊢; omega)
    | atm T c =>
      have hA0 := hA
      obtain ⟨l, ys, hA1, _⟩ := hA
      walk_at "gx"
      refine ⟨B, x, rw_, .atm T c, R, L, rfl, hA0, hleaf rfl, (fun _ z => nomatch z), hrow, hin, fun t W2 e2 ht => ?_⟩
      have b2 := b.same e2
      refine Ls.of b2.hst (Need.mk (by rw [List.length_map, sizeLine_eq]; omega) ?_)
      have b3 := b2.put (as' := as ++ [t]) (qs' := qs ++ [lfQ (.atm T c)]) (l := as.map V.ref ++ [.ref t]) nst (by rw [List.map_append]; rfl) (pr_snocRT b2.hq ht)
      exact fin eD b3 (by simp [stepQ]) (by simp at lq ⊢; omega)
  · rintro σ W ⟨as, qs, x3, x4, rfl, b, hrun, lq⟩
    have lx : (xs.map V.ref).length = ss.length := by rw [List.length_map]; exact (Paired.length hS).symm
    rw [lx, List.take_length, hq0] at hrun
    have eq : qs = [q0] := by rw [← List.reverse_reverse qs, ← hrun]; rfl
    subst eq
    obtain ⟨as0, a1, rfl, hq1, ha1⟩ := pr_snocLT (xs := []) b.hq
    cases hq1
    have hst : W st = some (.lst ([] ++ [.ref a1])) := b.hst
    have q := q W b.e
    generalize ans R q0 = o at ha1 q
    unfold prV at ha1
    rcases o with _ | _ | _ <;> walk_at "gx" <;> exact q
end S
namespace S
open PySem PySem.Spec PyProof.Rows L2
def t__law_wide_b1 (K : Frag) (E : XK) : TS :=
    tAsg (tOp (oAdd K) (tOp oMulA (dVar 3) (tC (.int 1000))) (dCall (sp__law_draw K) (EW E) (tCons (dVar 0) (tCons (dVar 1) (tCons (tC (.int 1000)) (tNil)))))) (gName 3)
def t__law_wide_2 (K : Frag) (E : XK) : TS :=
    tRet (tOp oMod (tCB cInt (tCons (dVar 3) (tNil))) (dVar 2))
def t__law_wide_1 (K : Frag) (E : XK) : TS :=
    tSeq (dFor (iRng (tCons (tC (.int 6)) (tNil))) (gName 4) (t__law_wide_b1 K E))
    (stop (t__law_wide_2 K E))
def t__law_wide (K : Frag) (E : XK) : TS :=
    tSeq (tAsg (tC (.int 0)) (gName 3))
    (stop (t__law_wide_1 K E))
end S
-- fn: _law_wide
-- law: k03
-- deps: D0
namespace S
open PySem PySem.Spec PyProof.Rows L2
def sp__law_wide (K : Frag) : Sp := fun vs H Q _ => ∃ (a st : Addr) (lim : Int), vs = [.ref a, .ref st, .int lim] ∧ Ctx K H a st ∧ 0 < lim ∧
  ∀ (r : Int) (H' : Hp), 0 ≤ r → r < lim → Ctx K H' a st → SameX st H H' → Q (.int r) H'
theorem pure__law_wide {K : Frag} (vs : List V) (H : Hp) (Q : VK) (E : XK) (h : sp__law_wide K vs H Q E) : t__law_wide K E { nx := fun _ H' => Q .non H', rt := Q } (start ["_law_script", "_law_state", "_law_limit", "_law_number", "_law_k"] vs) H := by
  obtain ⟨a, st, lim, rfl, hc, hl, q⟩ := h
  walk_at "gx"
  refine for_rng (fun i σ H1 => ∃ (n : Int) (k : Option V), σ = [some (.ref a), some (.ref st), some (.int lim), some (.int n), k] ∧ Ctx K H1 a st ∧ SameX st H H1) ⟨0, none, rfl, hc, SameX.refl _ _⟩ ?_ ?_
  · rintro i σ H1 hi ⟨n, k, rfl, c1, e1⟩
    walk_at "gx"
    refine ⟨a, st, _, rfl, c1, by decide, fun r H2 h0 h1 c2 e2 => ?_⟩
    exact ⟨_, _, rfl, c2, e1.trans e2⟩
  · rintro σ H1 ⟨n, k, rfl, c1, e1⟩
    walk_at "gx"
    exact q _ _ (Int.emod_nonneg _ (by omega)) (Int.emod_lt_of_pos _ hl) c1 e1
end S
namespace S
open PySem PySem.Spec PyProof.Rows L2
def t__law_number_6 (K : Frag) (E : XK) : TS :=
    tRet (tOp oSub (tOp oMod (tCB cInt (tCons (tOp (oAdd K) (dVar 5) (dVar 3)) (tNil))) (tOp oMulA (tC (.int 2)) (dVar 3))) (dVar 3))
def t__law_number_5 (K : Frag) (E : XK) : TS :=
    tSeq (dIfS (dCmpT oGt (dVar 4) (tC (.int 2))) (tAsg (dCall (sp__law_wide K) (EW E) (tCons (dVar 0) (tCons (dVar 1) (tCons (tOp oMulA (tC (.int 2)) (dVar 3)) (tNil))))) (gName 5)) (tNext))
    (stop (t__law_number_6 K E))
def t__law_number_4 (K : Frag) (E : XK) : TS :=
    tSeq (dIfS (dCmpT (oEq K) (dVar 4) (tC (.int 2))) (tSeq (tAsg (tOp oShl (tC (.int 1)) (dCall (sp__law_draw K) (EW E) (tCons (dVar 0) (tCons (dVar 1) (tCons (dVar 2) (tNil)))))) (gName 6))
    (tAsg (tOp (oIx K) (dLst (tCons (tOp oSub (dVar 6) (tC (.int 1))) (tCons (dVar 6) (tCons (tUn uNeg (dVar 6)) (tCons (tOp oSub (tUn uNeg (tC (.int 1))) (dVar 6)) (tNil)))))) (dVar 5)) (gName 5))) (tNext))
    (stop (t__law_number_5 K E))
def t__law_number_3 (K : Frag) (E : XK) : TS :=
    tSeq (dIfS (dCmpT (oEq K) (dVar 4) (tC (.int 1))) (tAsg (tOp oSub (tUn uNeg (tC (.int 1))) (dVar 5)) (gName 5)) (tNext))
    (stop (t__law_number_4 K E))
def t__law_number_2 (K : Frag) (E : XK) : TS :=
    tSeq (tAsg (dCall (sp__law_draw K) (EW E) (tCons (dVar 0) (tCons (dVar 1) (tCons (tC (.int 4)) (tNil))))) (gName 5))
    (stop (t__law_number_3 K E))
def t__law_number_1 (K : Frag) (E : XK) : TS :=
    tSeq (tAsg (dCall (sp__law_draw K) (EW E) (tCons (dVar 0) (tCons (dVar 1) (tCons (tC (.int 5)) (tNil))))) (gName 4))
    (stop (t__law_number_2 K E))
def t__law_number (K : Frag) (E : XK) : TS :=
    tSeq (tAsg (tOp oShl (tC (.int 1)) (tOp oSub (dVar 2) (tC (.int 1)))) (gName 3))
    (stop (t__law_number_1 K E))
end S
-- fn: _law_number
-- law: k15
-- deps: D0 D1 _law_draw _law_wide
namespace S
open PySem PySem.Spec PyProof.Rows L2
/-- a number of so many places -/
def sp__law_number (K : Frag) : Sp := fun vs H Q _ => ∃ (a st : Addr) (p : Int), vs = [.ref a, .ref st, .int p] ∧ Ctx K H a st ∧ 1 ≤ p ∧ p ≤ 100 ∧
  ∀ (r : Int) (H' : Hp), -(2 ^ (p - 1).toNat : Int) ≤ r → r < 2 ^ (p - 1).toNat → Ctx K H' a st → SameX st H H' → Q (.int r) H'
theorem pure__law_number {K : Frag} (vs : List V) (H : Hp) (Q : VK) (E : XK) (h : sp__law_number K vs H Q E) : t__law_number K E { nx := fun _ H' => Q .non H', rt := Q } (start ["_law_script", "_law_state", "_law_places", "_law_half", "_law_kind", "_law_number_here", "_law_power"] vs) H := by
  obtain ⟨a, st, p, rfl, hc, p1, p2, q⟩ := h
  have hp0 : (0 : Int) < 2 ^ (p - 1).toNat := Int.pow_pos (by decide)
  have one : (1 : Int) * 2 ^ (p - 1).toNat = 2 ^ (p - 1).toNat := Int.one_mul _
  walk_at "gx"
  show t__law_number_1 K E _ [some (.ref a), some (.ref st), some (.int p), some (.int ((1 : Int) * 2 ^ (p - 1).toNat)), none, none, none] H
  rw [one]
  generalize (2 ^ (p - 1).toNat : Int) = h2 at *
  have fin : ∀ (H1 : Hp) (k x : Int) (pw : Option V), Ctx K H1 a st → SameX st H H1 → t__law_number_6 K E { nx := fun _ H' => Q .non H', rt := Q } [some (.ref a), some (.ref st), some (.int p), some (.int h2), some (.int k), some (.int x), pw] H1 := by
    intro H1 k x pw c1 e1
    walk_at "gx"
    have m0 := Int.emod_nonneg (x + h2) (b := 2 * h2) (by omega)
    have m1 := Int.emod_lt_of_pos (x + h2) (b := 2 * h2) (by omega)
    exact q _ _ (by dsimp only; omega) (by dsimp only; omega) c1 e1
  have s5 : ∀ (H1 : Hp) (k x : Int) (pw : Option V), Ctx K H1 a st → SameX st H H1 → t__law_number_5 K E { nx := fun _ H' => Q .non H', rt := Q } [some (.ref a), some (.ref st), some (.int p), some (.int h2), some (.int k), some (.int x), pw] H1 := by
    intro H1 k x pw c1 e1
    walk_at "gx"
    refine ifd (fun hk => ?_) (fun hk => ?_)
    · walk_at "gx"
      refine ⟨a, st, _, rfl, c1, by omega, fun r H2 r0 r1 c2 e2 => ?_⟩
      exact ⟨fin H2 k r pw c2 (e1.trans e2)⟩
    · exact ⟨fin H1 k x pw c1 e1⟩
  refine ⟨a, st, _, rfl, hc, by decide, fun kd H1 k0 k1 c1 e1 => ?_⟩
  walk_at "gx"
  refine ⟨a, st, _, rfl, c1, by decide, fun x H2 x0 x1 c2 e2 => ?_⟩
  have e12 := e1.trans e2
  have x1' : x < 4 := x1
  have s4 : ∀ y : Int, (kd = 2 → y = x) → t__law_number_4 K E { nx := fun _ H' => Q .non H', rt := Q } [some (.ref a), some (.ref st), some (.int p), some (.int h2), some (.int kd), some (.int y), none] H2 := by
    intro y hy
    walk_at "gx"
    refine ifd (fun hk => ?_) (fun hk => ?_)
    · have ey := hy hk
      subst ey
      walk_at "gx"
      refine ⟨a, st, _, rfl, c2, by omega, fun b H3 b0 b1 c3 e3 => ?_⟩
      have b1' : b < p := b1
      walk_at "gx"
      refine ⟨fun l nl => ?_⟩
      have e4 := same_new (o := .lst [.int ((1 : Int) * 2 ^ b.toNat - 1), .int ((1 : Int) * 2 ^ b.toNat), .int (-((1 : Int) * 2 ^ b.toNat)), .int (-1 - (1 : Int) * 2 ^ b.toNat)]) nl
      obtain ⟨j, rfl⟩ := Int.eq_ofNat_of_zero_le x0
      have hj : j < 4 := by omega
      have c4 := c3.same e4
      have e14 := (e12.trans e3).then e4
      refine Rd.l upd_same ?_
      match j, hj with
      | 0, _ => exact S.At.of (atI_nat (j := 0) rfl) ⟨s5 _ _ _ _ c4 e14⟩
      | 1, _ => exact S.At.of (atI_nat (j := 1) rfl) ⟨s5 _ _ _ _ c4 e14⟩
      | 2, _ => exact S.At.of (atI_nat (j := 2) rfl) ⟨s5 _ _ _ _ c4 e14⟩
      | 3, _ => exact S.At.of (atI_nat (j := 3) rfl) ⟨s5 _ _ _ _ c4 e14⟩
    · exact ⟨s5 H2 kd y none c2 e12⟩
  walk_at "gx"
  refine ifd (fun hk => ?_) (fun hk => ?_)
  · exact ⟨s4 _ (fun z => by omega)⟩
  · exact ⟨s4 x (fun _ => rfl)⟩
end S
namespace S
open PySem PySem.Spec PyProof.Rows L2
def t__law_leaf_b1 (K : Frag) (E : XK) : TS :=
    dIfS (dCmpT oLt (dCall (sp__law_draw K) (EW E) (tCons (dVar 0) (tCons (dVar 1) (tCons (tC (.int 3)) (tNil))))) (tC (.int 2))) (tSeq (tAsg (tOp (oIx K) (dLst (tCons (tC (.int 1)) (tCons (tUn uNeg (tC (.int 1))) (tCons (tC (.int 2)) (tCons (tC (.int 0)) (tCons (tUn uNeg (tC (.int 3))) (tCons (tC (.int 4)) (tCons (tC (.int 3)) (tCons (tUn uNeg (tC (.int 2))) (tCons (tUn uNeg (tC (.int 4))) (tNil))))))))))) (dCall (sp__law_draw K) (EW E) (tCons (dVar 0) (tCons (dVar 1) (tCons (tC (.int 9)) (tNil)))))) (gName 7))
    (tSeq (tDrop (dML K mApp (dVar 5) (tCons (dTup K (tCons (tOp (oIx K) (dVar 4) (tC (.int 0))) (tCons (dVar 7) (tNil)))) (tNil))))
    (tAsg (tOp (oAdd K) (dVar 6) (tOp oMulA (dVar 7) (dCall (sp__law_number K) (EW E) (tCons (dVar 0) (tCons (dVar 1) (tCons (tOp (oIx K) (dVar 4) (tC (.int 1))) (tNil))))))) (gName 6)))) (tNext)
def t__law_leaf_5 (K : Frag) (E : XK) : TS :=
    tRet (dTup K (tCons (tC (.str "atmost")) (tCons (dVar 5) (tCons (dVar 6) (tNil)))))
def t__law_leaf_4 (K : Frag) (E : XK) : TS :=
    tSeq (dFor (iSeq K (dVar 2)) (gName 4) (t__law_leaf_b1 K E))
    (stop (t__law_leaf_5 K E))
def t__law_leaf_3 (K : Frag) (E : XK) : TS :=
    tSeq (tAsg (tOp (oIx K) (dLst (tCons (tC (.int 0)) (tCons (tUn uNeg (tC (.int 1))) (tCons (tC (.int 1)) (tNil))))) (dCall (sp__law_draw K) (EW E) (tCons (dVar 0) (tCons (dVar 1) (tCons (tC (.int 3)) (tNil)))))) (gName 6))
    (stop (t__law_leaf_4 K E))
def t__law_leaf_2 (K : Frag) (E : XK) : TS :=
    tSeq (tAsg (dLst (tNil)) (gName 5))
    (stop (t__law_leaf_3 K E))
def t__law_leaf_1 (K : Frag) (E : XK) : TS :=
    tSeq (dIfS (dAnd (dCmpT oGt (dVar 3) (tC (.int 1))) (dCmpT oGt (tCB (cLen K) (tCons (dVar 2) (tNil))) (tC (.int 0)))) (tSeq (tAsg (tOp (oIx K) (dVar 2) (dCall (sp__law_draw K) (EW E) (tCons (dVar 0) (tCons (dVar 1) (tCons (tCB (cLen K) (tCons (dVar 2) (tNil))) (tNil)))))) (gName 4))
    (tSeq (dIfS (dCmpT (oEq K) (dVar 3) (tC (.int 2))) (tRet (dTup K (tCons (tC (.str "present")) (tCons (tOp (oIx K) (dVar 4) (tC (.int 0))) (tNil))))) (tNext))
    (tRet (dTup K (tCons (tC (.str "bit")) (tCons (tOp (oIx K) (dVar 4) (tC (.int 0))) (tCons (dCall (sp__law_draw K) (EW E) (tCons (dVar 0) (tCons (dVar 1) (tCons (tOp (oAdd K) (tOp (oIx K) (dVar 4) (tC (.int 1))) (tC (.int 3))) (tNil))))) (tNil)))))))) (tNext))
    (stop (t__law_leaf_2 K E))
def t__law_leaf (K : Frag) (E : XK) : TS :=
    tSeq (tAsg (dCall (sp__law_draw K) (EW E) (tCons (dVar 0) (tCons (dVar 1) (tCons (tC (.int 4)) (tNil))))) (gName 3))
    (stop (t__law_leaf_1 K E))
end S
-- fn: _law_leaf
-- law: k42
-- deps: Stp Fstay Nm _law_number _law_draw
namespace S
open PySem PySem.Spec PyProof.Rows L2
def sp__law_leaf (K : Frag) : Sp := fun vs H Q _ => ∃ (a st p : Addr) (ys : List V) (cs : List Col), vs = [.ref a, .ref st, .ref p] ∧ Ctx K H a st ∧ H p = some (.lst ys) ∧ p ≠ st ∧ Cols K H ys cs ∧ cs.length ≤ 60 ∧ (cs.map fun c => c.1).Nodup ∧ (∀ c ∈ cs, 1 ≤ c.2 ∧ c.2 ≤ 100) ∧
  ∀ (x : Addr) (s : Stp) (H' : Hp), StA K H H' x s → s.leaf (cs.map fun c => c.1) → Ctx K H' a st → SameX st H H' → Q (.ref x) H'
theorem cols_atL {K : Frag} {H : Hp} : ∀ {ys : List V} {cs : List Col} {i : Nat} {y : V}, Cols K H ys cs → ys[i]? = some y → ∃ c, cs[i]? = some c ∧ ColT K H c y
  | _, _, i, _, .nil, h => by simp at h
  | _, _, 0, _, .cons h _, e => by
    rw [List.getElem?_cons_zero] at e
    cases e
    exact ⟨_, rfl, h⟩
  | _, _, i + 1, _, .cons _ t, e => by
    rw [List.getElem?_cons_succ] at e
    obtain ⟨x, hx, hp⟩ := cols_atL t e
    exact ⟨x, by rw [List.getElem?_cons_succ]; exact hx, hp⟩
theorem cols_snocL {K : Frag} {H : Hp} {y : V} {c : Col} : ∀ {ys : List V} {cs : List Col}, Cols K H ys cs → ColT K H c y → Cols K H (ys ++ [y]) (cs ++ [c])
  | _, _, .nil, h => .cons h .nil
  | _, _, .cons a t, h => .cons a (cols_snocL t h)
theorem pure__law_leaf {K : Frag} (vs : List V) (H : Hp) (Q : VK) (E : XK) (h : sp__law_leaf K vs H Q E) : t__law_leaf K E { nx := fun _ H' => Q .non H', rt := Q } (start ["_law_script", "_law_state", "_law_columns", "_law_kind", "_law_column", "_law_terms", "_law_bound", "_law_factor"] vs) H := by
  obtain ⟨a, st, p, ys, cs, rfl, hc, hp, pst, hC, lcs, ndC, wd, q⟩ := h
  obtain ⟨l0, hst⟩ := ctx_st hc
  have lys : ys.length = cs.length := (Paired.length hC).symm
  walk_at "gx"
  refine ⟨a, st, _, rfl, hc, by decide, fun kd H1 k0 k1 c1 e1 => ?_⟩
  have hp1 := e1 _ _ hp pst
  have hC1 := hC.x e1 hst
  have atm : ∀ (col : Option V) (H2 : Hp), Ctx K H2 a st → SameX st H H2 → t__law_leaf_2 K E { nx := fun _ H' => Q .non H', rt := Q } [some (.ref a), some (.ref st), some (.ref p), some (.int kd), col, none, none, none] H2 := by
    intro col H2 c2 s2
    have hp2 := s2 _ _ hp pst
    walk_at "gx"
    refine ⟨fun d nd => ?_⟩
    have f := same_new (o := .lst ([] : List V)) nd
    have c3 := c2.same f
    have dst := ctx_ne c2 nd
    have dp : d ≠ p := Ne.symm (ne_of_none hp2 nd)
    have hd : upd H2 d (.lst ([] : List V)) d = some (.lst []) := upd_same
    have s3 : SameX st H2 (upd H2 d (.lst ([] : List V))) := Same.x f
    generalize upd H2 d (.lst ([] : List V)) = H3 at *
    walk_at "gx"
    refine ⟨fun g ng => ?_⟩
    have f4 := same_new (o := .lst [.int 0, .int (-1), .int 1]) ng
    have gst := ctx_ne c3 ng
    have c4 := c3.same f4
    have hg : upd H3 g (.lst [.int 0, .int (-1), .int 1]) g = some (.lst [.int 0, .int (-1), .int 1]) := upd_same
    have hd4 := f4 _ _ hd
    have s4 : SameX st H2 (upd H3 g (.lst [.int 0, .int (-1), .int 1])) := s3.trans (Same.x f4)
    show dCall _ _ _ _ (upd H3 g (.lst [.int 0, .int (-1), .int 1])) _
    generalize upd H3 g (.lst [.int 0, .int (-1), .int 1]) = H4 at *
    refine ⟨a, st, _, rfl, c4, by decide, fun w H5 w0 w1 c5 e5 => ?_⟩
    have w1 : w < 3 := w1
    obtain ⟨j, rfl⟩ := Int.eq_ofNat_of_zero_le w0
    have hj : j < 3 := by omega
    obtain ⟨b, hb⟩ : ∃ b : Int, ([V.int 0, V.int (-1), V.int 1])[j]? = some (.int b) := by
      rcases j with _ | _ | _ | j
      · exact ⟨0, rfl⟩
      · exact ⟨-1, rfl⟩
      · exact ⟨1, rfl⟩
      · omega
    refine Rd.l (e5 _ _ hg gst) (S.At.of (v := .int b) (atI_nat hb) ?_)
    have hd5 := e5 _ _ hd4 dst
    have s5 := s4.trans e5
    refine ⟨?_⟩
    obtain ⟨l2, hst2⟩ := ctx_st c2
    have hC2 := hC.x s2 hst
    have hp2X : ∀ {U : Hp}, SameX st H2 U → U p = some (.lst ys) := fun e => e _ _ hp2 pst
    have hC2X : ∀ {U : Hp}, SameX st H2 U → Cols K U ys cs := fun e => hC2.x e hst2
    walk_at "gx"
    refine for_lst (K := K) (xs := ys) (fun i σ W => ∃ (T : Tms) (zs : List V) (b : Int) (x4 x7 : Option V), σ = [some (.ref a), some (.ref st), some (.ref p), some (.int kd), x4, some (.ref d), some (.int b), x7] ∧ W d = some (.lst zs) ∧ Cols K W zs T ∧ (nmT T).Sublist ((cs.map fun c => c.1).take i) ∧ (∀ t ∈ T, -4 ≤ t.2 ∧ t.2 ≤ 4) ∧ Ctx K W a st ∧ SameX st H2 W) (hp2X s5) ⟨[], [], b, col, none, rfl, hd5, .nil, List.nil_sublist _, (fun _ z => nomatch z), c5, s5⟩ (fun i σ W ⟨_, _, _, _, _, _, _, _, _, _, _, z⟩ => hp2X z) ?_ ?_
    · rintro i y σ W hi ⟨T, zs, b, x4, x7, rfl, hz, hT, sub, sm, c, s⟩
      obtain ⟨t, ht, ad, rfl, hv⟩ := cols_atL (hC2X s) hi
      have il : i < cs.length := (List.getElem?_eq_some_iff.mp ht).1
      have tk : (cs.map fun c => c.1).take (i + 1) = (cs.map fun c => c.1).take i ++ [t.1] := by rw [List.take_add_one, List.getElem?_map, ht]; rfl
      have ltm := List.mem_of_getElem? ht
      have lT : T.length ≤ cs.length := by have := sub.length_le; unfold nmT at this; rw [List.length_map, List.length_take, List.length_map] at this; omega
      have lzs : zs.length = T.length := (Paired.length hT).symm
      have hvX : ∀ {U : Hp}, SameX st W U → SqT K U ad [.str t.1, .int t.2] := fun e => e.tup hv (ctx_st c).choose_spec
      walk_at "gx"
      refine ⟨a, st, _, rfl, c, by decide, fun w6 H6 _ _ c6 e6 => ?_⟩
      refine ifd (fun hlt => ?_) (fun hlt => ?_)
      · walk_at "gx"
        refine ⟨fun g2 ng2 => ?_⟩
        have f7 := same_new (o := .lst [.int 1, .int (-1), .int 2, .int 0, .int (-3), .int 4, .int 3, .int (-2), .int (-4)]) ng2
        have g2st := ctx_ne c6 ng2
        have c7 := c6.same f7
        have hg2 : upd H6 g2 (.lst [.int 1, .int (-1), .int 2, .int 0, .int (-3), .int 4, .int 3, .int (-2), .int (-4)]) g2 = some (.lst [.int 1, .int (-1), .int 2, .int 0, .int (-3), .int 4, .int 3, .int (-2), .int (-4)]) := upd_same
        have s7 : SameX st W (upd H6 g2 (.lst [.int 1, .int (-1), .int 2, .int 0, .int (-3), .int 4, .int 3, .int (-2), .int (-4)])) := e6.trans (Same.x f7)
        show dCall _ _ _ _ (upd H6 g2 (.lst [.int 1, .int (-1), .int 2, .int 0, .int (-3), .int 4, .int 3, .int (-2), .int (-4)])) _
        generalize upd H6 g2 (.lst [.int 1, .int (-1), .int 2, .int 0, .int (-3), .int 4, .int 3, .int (-2), .int (-4)]) = H7 at *
        refine ⟨a, st, _, rfl, c7, by decide, fun w8 H8 w80 w81 c8 e8 => ?_⟩
        have w81 : w8 < 9 := w81
        obtain ⟨j8, rfl⟩ := Int.eq_ofNat_of_zero_le w80
        have hj8 : j8 < 9 := by omega
        obtain ⟨fc, hfc, fc1, fc2⟩ : ∃ fc : Int, ([V.int 1, V.int (-1), V.int 2, V.int 0, V.int (-3), V.int 4, V.int 3, V.int (-2), V.int (-4)])[j8]? = some (.int fc) ∧ -4 ≤ fc ∧ fc ≤ 4 := by
          rcases j8 with _ | _ | _ | _ | _ | _ | _ | _ | _ | j8
          · exact ⟨1, rfl, by decide, by decide⟩
          · exact ⟨-1, rfl, by decide, by decide⟩
          · exact ⟨2, rfl, by decide, by decide⟩
          · exact ⟨0, rfl, by decide, by decide⟩
          · exact ⟨-3, rfl, by decide, by decide⟩
          · exact ⟨4, rfl, by decide, by decide⟩
          · exact ⟨3, rfl, by decide, by decide⟩
          · exact ⟨-2, rfl, by decide, by decide⟩
          · exact ⟨-4, rfl, by decide, by decide⟩
          · omega
        refine Rd.l (e8 _ _ hg2 g2st) (S.At.of (v := .int fc) (atI_nat hfc) ?_)
        have s8 := s7.trans e8
        have hv8 := hvX s8
        have hz8 := s8 _ _ hz dst
        have hT8 := hT.x s8 (ctx_st c).choose_spec
        have lz : zs.length < sizeLine := by rw [sizeLine_eq]; omega
        refine IsL.of hz8 ?_
        refine ⟨_, .inr hv8, S.At.of (v := .str t.1) rfl ?_⟩
        refine Need.mk (by rw [sizeLine_eq]; show 2 ≤ 16777216; decide) ⟨fun tt H9 e9 htt => ?_⟩
        have hz9 := e9 _ _ hz8
        have ex : SameX d H9 (L2.upd H9 d (.lst (zs ++ [.ref tt]))) := SameX.upd
        refine Ls.of hz9 (Need.mk lz ?_)
        have c10 : Ctx K (L2.upd H9 d (.lst (zs ++ [.ref tt]))) a st := (c8.same e9).mut c2 nd
        have s10 : SameX st H2 (L2.upd H9 d (.lst (zs ++ [.ref tt]))) := SameX.mut ((s.trans s8).trans (Same.x e9)) nd
        have hv10 := ex.tup (Same.tup e9 hv8) hz9
        have hz10 : L2.upd H9 d (.lst (zs ++ [.ref tt])) d = some (.lst (zs ++ [.ref tt])) := upd_same
        have hT10 := cols_snocL ((hT8.same e9).x ex hz9) (c := (t.1, fc)) ⟨tt, rfl, ex.tup htt hz9⟩
        refine ⟨_, .inr hv10, S.At.of (v := .int t.2) rfl ?_⟩
        refine ⟨a, st, t.2, rfl, c10, (wd t ltm).1, (wd t ltm).2, fun r H11 _ _ c11 e11 => ?_⟩
        refine Need.mk (.inl ⟨by omega, by omega⟩) ?_
        refine ⟨T ++ [(t.1, fc)], _, _, _, _, rfl, e11 _ _ hz10 dst, hT10.x e11 (ctx_st c10).choose_spec, ?_, fun u hu => ?_, c11, s10.trans e11⟩
        · rw [tk]
          unfold nmT
          rw [List.map_append]
          exact sub.append (List.Sublist.refl _)
        · rcases List.mem_append.mp hu with hu | hu
          · exact sm u hu
          · rw [List.mem_singleton.mp hu]; exact ⟨fc1, fc2⟩
      · refine ⟨T, zs, b, _, _, rfl, e6 _ _ hz dst, hT.x e6 (ctx_st c).choose_spec, ?_, sm, c6, s.trans e6⟩
        rw [tk]
        exact sub.trans (List.sublist_append_left _ _)
    · rintro σ W ⟨T, zs, b, x4, x7, rfl, hz, hT, sub, sm, c, s⟩
      have sub2 : (nmT T).Sublist (cs.map fun c => c.1) := sub.trans (List.take_sublist _ _)
      walk_at "gx"
      refine ⟨fun x H9 e9 hx => ?_⟩
      exact q x (.atm T b) H9 ⟨d, zs, hx, (by cases hd0 : H d with | none => rfl | some o => have := s2 _ _ hd0 dst; rw [nd] at this; cases this), e9 _ _ hz, hT.same e9⟩ ⟨sub2.nodup ndC, fun z hz => sub2.subset hz, sm⟩ (c.same e9) ((s2.trans s).trans (Same.x e9))
  walk_at "gx"
  have leaf2 : ∀ (col : Option V) (H2 : Hp), Ctx K H2 a st → SameX st H H2 → stop (t__law_leaf_2 K E) { nx := fun _ H' => Q .non H', rt := Q } [some (.ref a), some (.ref st), some (.ref p), some (.int kd), col, none, none, none] H2 := fun col H2 c2 s2 => ⟨atm col H2 c2 s2⟩
  refine ifd (fun hk => ?_) (fun hk => ?_)
  · refine Rd.l hp1 ?_
    refine ifd (fun hl => ?_) (fun hl => ?_)
    · refine Rd.l hp1 ?_
      refine ⟨a, st, _, rfl, c1, by omega, fun w H2 w0 w1 c2 e2 => ?_⟩
      have w1 : w < (ys.length : Int) := w1
      obtain ⟨j, rfl⟩ := Int.eq_ofNat_of_zero_le w0
      have hj : j < ys.length := by omega
      have hget : ys[j]? = some ys[j] := List.getElem?_eq_getElem hj
      have s2 := e1.trans e2
      obtain ⟨t, ht, ad, et, hv⟩ := cols_atL (hC.x s2 hst) hget
      have tm : t ∈ cs := List.mem_of_getElem? ht
      have hget : ys[j]? = some (.ref ad) := by rw [hget, et]
      refine Rd.l (s2 _ _ hp pst) (S.At.of (v := .ref ad) (atI_nat hget) ?_)
      refine ifd (fun h2 => ?_) (fun h2 => ?_)
      · refine ⟨_, .inr hv, S.At.of (v := .str t.1) rfl ?_⟩
        refine Need.mk (by rw [sizeLine_eq]; show 2 ≤ 16777216; decide) ⟨fun x H3 e3 hx => ?_⟩
        exact q x (.prs t.1) H3 hx (List.mem_map.mpr ⟨t, tm, rfl⟩) (c2.same e3) (s2.trans (Same.x e3))
      · refine ⟨_, .inr hv, S.At.of (v := .str t.1) rfl ?_⟩
        refine ⟨_, .inr hv, S.At.of (v := .int t.2) rfl ?_⟩
        have := wd t tm
        refine ⟨a, st, _, rfl, c2, by show 0 < t.2 + 3; omega, fun pl H3 p0 p1 c3 e3 => ?_⟩
        have p1 : pl < t.2 + 3 := p1
        refine Need.mk (by rw [sizeLine_eq]; show 3 ≤ 16777216; decide) ⟨fun x H4 e4 hx => ?_⟩
        exact q x (.bit t.1 pl) H4 hx ⟨List.mem_map.mpr ⟨t, tm, rfl⟩, p0, by omega⟩ (c3.same e4) ((s2.trans e3).trans (Same.x e4))
    · exact leaf2 none H1 c1 e1
  · exact leaf2 none H1 c1 e1
end S
namespace S
open PySem PySem.Spec PyProof.Rows L2
def t__law_recipe_b1_1 (K : Frag) (E : XK) : TS :=
    dIfS (dAnd (dCmpT oGt (dVar 7) (tC (.int 7))) (dCmpT oGt (tCB (cLen K) (tCons (dVar 5) (tNil))) (tC (.int 1)))) (tSeq (tDrop (dML K mApp (dVar 4) (tCons (tOp (oIx K) (dLst (tCons (dTup K (tCons (tC (.str "and")) (tNil))) (tCons (dTup K (tCons (tC (.str "or")) (tNil))) (tNil)))) (tOp oSub (dVar 7) (tC (.int 8)))) (tNil))))
    (tSeq (tAsg (dML K mPop (dVar 5) tNil) (gName 8))
    (tAsg (tOp (oAdd K) (tOp (oAdd K) (tOp (oIx K) (dVar 5) (tUn uNeg (tC (.int 1)))) (dVar 8)) (tC (.int 1))) (gSub (dVar 5) (tUn uNeg (tC (.int 1))) oSet)))) (dIfS (dAnd (dCmpT (oEq K) (dVar 7) (tC (.int 7))) (dAnd (dCmpT oGt (tCB (cLen K) (tCons (dVar 5) (tNil))) (tC (.int 0))) (dCmpT oLt (tCB (cSum K) (tCons (dVar 5) (tNil))) (tC (.int 7))))) (tSeq (tDrop (dML K mApp (dVar 4) (tCons (dTup K (tCons (tC (.str "twice")) (tNil))) (tNil))))
    (tDrop (dML K mApp (dVar 5) (tCons (tOp (oIx K) (dVar 5) (tUn uNeg (tC (.int 1)))) (tNil))))) (dIfS (dAnd (dCmpT oGt (dVar 7) (tC (.int 4))) (dCmpT oGt (tCB (cLen K) (tCons (dVar 5) (tNil))) (tC (.int 0)))) (tSeq (tDrop (dML K mApp (dVar 4) (tCons (tOp (oIx K) (dLst (tCons (dTup K (tCons (tC (.str "not")) (tNil))) (tCons (dTup K (tCons (tC (.str "sure")) (tNil))) (tNil)))) (tOp oMod (tCB cInt (tCons (dVar 7) (tNil))) (tC (.int 2)))) (tNil))))
    (tAsg (tOp (oAdd K) (tOp (oIx K) (dVar 5) (tUn uNeg (tC (.int 1)))) (tC (.int 1))) (gSub (dVar 5) (tUn uNeg (tC (.int 1))) oSet))) (tSeq (tDrop (dML K mApp (dVar 4) (tCons (dCall (sp__law_leaf K) (EW E) (tCons (dVar 0) (tCons (dVar 1) (tCons (dVar 2) (tNil))))) (tNil))))
    (tDrop (dML K mApp (dVar 5) (tCons (tC (.int 1)) (tNil)))))))
def t__law_recipe_b1 (K : Frag) (E : XK) : TS :=
    tSeq (tAsg (dCall (sp__law_draw K) (EW E) (tCons (dVar 0) (tCons (dVar 1) (tCons (tC (.int 10)) (tNil))))) (gName 7))
    (stop (t__law_recipe_b1_1 K E))
def t__law_recipe_b2 (K : Frag) (E : XK) : TS :=
    tDrop (dML K mApp (dVar 4) (tCons (tOp (oIx K) (dLst (tCons (dTup K (tCons (tC (.str "and")) (tNil))) (tCons (dTup K (tCons (tC (.str "or")) (tNil))) (tNil)))) (dCall (sp__law_draw K) (EW E) (tCons (dVar 0) (tCons (dVar 1) (tCons (tC (.int 2)) (tNil)))))) (tNil)))
def t__law_recipe_4 (K : Frag) (E : XK) : TS :=
    tRet (dVar 4)
def t__law_recipe_3 (K : Frag) (E : XK) : TS :=
    tSeq (dFor (iRng (tCons (tOp oSub (tCB (cLen K) (tCons (dVar 5) (tNil))) (tC (.int 1))) (tNil))) (gName 6) (t__law_recipe_b2 K E))
    (stop (t__law_recipe_4 K E))
def t__law_recipe_2 (K : Frag) (E : XK) : TS :=
    tSeq (dFor (iRng (tCons (tOp (oAdd K) (tC (.int 1)) (dCall (sp__law_draw K) (EW E) (tCons (dVar 0) (tCons (dVar 1) (tCons (dVar 3) (tNil)))))) (tNil))) (gName 6) (t__law_recipe_b1 K E))
    (stop (t__law_recipe_3 K E))
def t__law_recipe_1 (K : Frag) (E : XK) : TS :=
    tSeq (tAsg (dLst (tNil)) (gName 5))
    (stop (t__law_recipe_2 K E))
def t__law_recipe (K : Frag) (E : XK) : TS :=
    tSeq (tAsg (dLst (tNil)) (gName 4))
    (stop (t__law_recipe_1 K E))
end S
-- fn: _law_recipe
-- law: k42
-- deps: _law_leaf_k42 Rcp Fstay LastV
namespace S
open PySem PySem.Spec PyProof.Rows L2
def sp__law_recipe (K : Frag) : Sp := fun vs H Q _ => ∃ (a st p : Addr) (m : Int) (ys : List V) (cs : List Col), vs = [.ref a, .ref st, .ref p, .int m] ∧ Ctx K H a st ∧ H p = some (.lst ys) ∧ p ≠ st ∧ Cols K H ys cs ∧ cs.length ≤ 60 ∧ (cs.map fun c => c.1).Nodup ∧ (∀ c ∈ cs, 1 ≤ c.2 ∧ c.2 ≤ 100) ∧ 0 < m ∧ m ≤ 40 ∧
  ∀ (r : Addr) (xs : List Addr) (ss : List Stp) (H' : Hp), H r = none → H' r = some (.lst (xs.map V.ref)) → Paired (fun s x => StA K H H' x s) ss xs → okR ss 0 = some 1 → (costR ss : Int) ≤ m → (ss.length : Int) ≤ 2 * m → (∀ s ∈ ss, s.isLeaf = true → s.leaf (cs.map fun c => c.1)) → Ctx K H' a st → SameX st H H' → Q (.ref r) H'
/-- the loop's invariant: H the heap at the entry, B behind the two new lists -/
structure Rc (K : Frag) (H B : Hp) (a st r z : Addr) (cs : List Col) (xs : List Addr) (ss : List Stp) (zs : List Int) (W : Hp) : Prop where
  hr : W r = some (.lst (xs.map V.ref))
  hz : W z = some (.lst (zs.map V.int))
  hs : Paired (fun s x => StA K B W x s) ss xs
  lf : ∀ s ∈ ss, s.isLeaf = true → s.leaf (cs.map fun c => c.1)
  c : Ctx K W a st
  s : SameX st H W
  al : ∀ l, W l = none → B l = none
/-- what holds of the lists' places -/
structure Pc (K : Frag) (H B : Hp) (a st r z : Addr) : Prop where
  c : Ctx K H a st
  nr : H r = none
  nz : H z = none
  br : ∃ o, B r = some o
  bz : ∃ o, B z = some o
  bst : ∃ o, B st = some o
  rz : r ≠ z
theorem st_snoc {α β : Type} {P : α → β → Prop} : ∀ {xs : List α} {ys : List β} {x : α} {y : β}, Paired P xs ys → P x y → Paired P (xs ++ [x]) (ys ++ [y])
  | _, _, _, _, .nil, h => .cons h .nil
  | _, _, _, _, .cons a t, h => .cons a (st_snoc t h)
section
variable {K : Frag} {H B W : Hp} {a st r z : Addr} {cs : List Col} {xs : List Addr} {ss : List Stp} {zs : List Int}
theorem Pc.rst (P : Pc K H B a st r z) : r ≠ st := ctx_ne P.c P.nr
theorem Pc.zst (P : Pc K H B a st r z) : z ≠ st := ctx_ne P.c P.nz
theorem Rc.x {W' : Hp} (b : Rc K H B a st r z cs xs ss zs W) (P : Pc K H B a st r z) (e : SameX st W W') (c : Ctx K W' a st) : Rc K H B a st r z cs xs ss zs W' := by
  obtain ⟨l0, hst⟩ := ctx_st b.c
  obtain ⟨o, h0⟩ := P.bst
  exact ⟨e _ _ b.hr P.rst, e _ _ b.hz P.zst, Paired.mapP b.hs fun _ _ h => h.x e hst h0, b.lf, c, b.s.trans e, fun l hl => b.al l (by
    cases h : W l with
    | none => rfl
    | some o =>
      by_cases g : l = st
      · obtain ⟨l1, h1⟩ := ctx_st c
        rw [g, h1] at hl; cases hl
      · rw [e _ _ h g] at hl; cases hl)⟩
theorem Rc.same {W' : Hp} (b : Rc K H B a st r z cs xs ss zs W) (e : Same W W') : Rc K H B a st r z cs xs ss zs W' :=
  ⟨e _ _ b.hr, e _ _ b.hz, Paired.mapP b.hs fun _ _ h => h.same e, b.lf, b.c.same e, b.s.trans (Same.x e), fun l hl => b.al l (by cases h : W l with | none => rfl | some o => rw [e _ _ h] at hl; cases hl)⟩
/-- a step is appended -/
theorem Rc.putr {x : Addr} {s : Stp} (b : Rc K H B a st r z cs xs ss zs W) (P : Pc K H B a st r z) (hx : StA K B W x s) (hl : s.isLeaf = true → s.leaf (cs.map fun c => c.1)) : Rc K H B a st r z cs (xs ++ [x]) (ss ++ [s]) zs (upd W r (.lst (xs.map V.ref ++ [.ref x]))) := by
  have e : SameX r W (upd W r (.lst (xs.map V.ref ++ [.ref x]))) := SameX.upd
  obtain ⟨o, h0⟩ := P.br
  refine ⟨by rw [upd_same, List.map_append]; rfl, e _ _ b.hz (Ne.symm P.rz), st_snoc (Paired.mapP b.hs fun _ _ h => h.x e b.hr h0) (hx.x e b.hr h0), fun t ht => ?_, b.c.mut P.c P.nr, SameX.mut b.s P.nr, fun l hl => b.al l (by
    by_cases g : l = r
    · rw [g, upd_same] at hl; cases hl
    · rw [upd_ne g] at hl; exact hl)⟩
  rcases List.mem_append.mp ht with ht | ht
  · exact b.lf t ht
  · rw [List.mem_singleton.mp ht]; exact hl
/-- the sizes change -/
theorem Rc.putz {zs' : List Int} {l : List V} (b : Rc K H B a st r z cs xs ss zs W) (P : Pc K H B a st r z) (el : l = zs'.map V.int) : Rc K H B a st r z cs xs ss zs' (upd W z (.lst l)) := by
  subst el
  have e : SameX z W (upd W z (.lst (zs'.map V.int))) := SameX.upd
  obtain ⟨o, h0⟩ := P.bz
  exact ⟨e _ _ b.hr P.rz, upd_same, Paired.mapP b.hs fun _ _ h => h.x e b.hz h0, b.lf, b.c.mut P.c P.nz, SameX.mut b.s P.nz, fun l hl => b.al l (by
    by_cases g : l = z
    · rw [g, upd_same] at hl; cases hl
    · rw [upd_ne g] at hl; exact hl)⟩
end
theorem pure__law_recipe {K : Frag} (vs : List V) (H : Hp) (Q : VK) (E : XK) (h : sp__law_recipe K vs H Q E) : t__law_recipe K E { nx := fun _ H' => Q .non H', rt := Q } (start ["_law_script", "_law_state", "_law_columns", "_law_most", "_law_recipe_here", "_law_sizes", "_law_k", "_law_kind", "_law_last"] vs) H := by
  obtain ⟨a, st, p, m, ys, cs, rfl, hc, hp, pst, hC, lcs, ndC, wd, m0, m1, q⟩ := h
  walk_at "gx"
  refine ⟨fun r nr => ?_⟩
  have f1 := same_new (o := .lst ([] : List V)) nr
  have hr1 : upd H r (.lst ([] : List V)) r = some (.lst []) := upd_same
  generalize upd H r (.lst ([] : List V)) = H1 at *
  walk_at "gx"
  refine ⟨fun z nz => ?_⟩
  have f2 := same_new (o := .lst ([] : List V)) nz
  have hz2 : upd H1 z (.lst ([] : List V)) z = some (.lst []) := upd_same
  have rz : r ≠ z := ne_of_none hr1 nz
  have hr2 := f2 _ _ hr1
  generalize upd H1 z (.lst ([] : List V)) = B at *
  have f12 := f1.trans f2
  obtain ⟨l0, hst⟩ := ctx_st hc
  have nzH : H z = none := by cases h : H z with | none => rfl | some o => rw [f1 _ _ h] at nz; cases nz
  have P : Pc K H B a st r z := ⟨hc, nr, nzH, ⟨_, hr2⟩, ⟨_, hz2⟩, ⟨_, f12 _ _ hst⟩, rz⟩
  have b0 : Rc K H B a st r z cs [] [] [] B := ⟨hr2, hz2, .nil, (fun _ z => nomatch z), hc.same f12, Same.x f12, fun _ h => h⟩
  walk_at "gx"
  refine ⟨a, st, m, rfl, b0.c, m0, fun n H3 n0 n1 c3 e3 => ?_⟩
  have b3 := b0.x P e3 c3
  refine Need.mk (by omega) ?_
  show LoopR _ _ _ _ (Itr 0 (1 + n).toNat) H3
  refine for_rng (fun i σ W => ∃ (xs : List Addr) (ss : List Stp) (zs : List Int) (x6 x7 x8 : Option V), σ = [some (.ref a), some (.ref st), some (.ref p), some (.int m), some (.ref r), some (.ref z), x6, x7, x8] ∧ Rc K H B a st r z cs xs ss zs W ∧ okR ss 0 = some zs.length ∧ costR ss ≤ i ∧ ss.length ≤ i ∧ zs.length ≤ i ∧ (i ≠ 0 → 1 ≤ zs.length)) ⟨[], [], [], _, _, _, rfl, b3, rfl, Nat.le_refl _, Nat.le_refl _, Nat.le_refl _, fun h => absurd rfl h⟩ ?_ ?_
  · rintro i σ W hi ⟨xs, ss, zs, x6, x7, x8, rfl, b, ok, co, ls, lz, l1⟩
    have hi : (i : Int) < 1 + n := hi
    have n1 : n < m := n1
    have lxs : xs.length = ss.length := (Paired.length b.hs).symm
    walk_at "gx"
    refine ⟨a, st, _, rfl, b.c, by decide, fun kd W1 k0 k1 c1 e1 => ?_⟩
    have k1 : kd < 10 := k1
    have b1 := b.x P e1 c1
    have hzW := b1.hz
    have hrW := b1.hr
    have lzS : (zs.map V.int).length = zs.length := List.length_map _
    -- a leaf
    have leaf : ∀ {DD : L2.Ends}, (∀ (xs : List Addr) (ss : List Stp) (zs : List Int) (W : Hp), Rc K H B a st r z cs xs ss zs W → okR ss 0 = some zs.length → costR ss ≤ i + 1 → ss.length ≤ i + 1 → zs.length ≤ i + 1 → 1 ≤ zs.length → DD.nx [some (.ref a), some (.ref st), some (.ref p), some (.int m), some (.ref r), some (.ref z), some (.int i), some (.int kd), x8] W) →
        (tSeq (tDrop (dML K mApp (dVar 4) (tCons (dCall (sp__law_leaf K) (EW E) (tCons (dVar 0) (tCons (dVar 1) (tCons (dVar 2) (tNil))))) (tNil)))) (tDrop (dML K mApp (dVar 5) (tCons (tC (.int 1)) (tNil))))) DD [some (.ref a), some (.ref st), some (.ref p), some (.int m), some (.ref r), some (.ref z), some (.int i), some (.int kd), x8] W1 := by
      intro DD nx
      obtain ⟨l3, hst3⟩ := ctx_st hc
      walk_at "gx"
      refine ⟨a, st, p, ys, cs, rfl, c1, b1.s _ _ hp pst, pst, hC.x b1.s hst, lcs, ndC, wd, fun x s W2 hx hl c2 e2 => ?_⟩
      have b2 := b1.x P e2 c2
      have hx2 := hx.older b1.al
      refine Ls.of b2.hr (Need.mk (by rw [List.length_map, sizeLine_eq]; omega) ?_)
      have b3 := b2.putr P hx2 fun _ => hl
      walk_at "gx"
      refine IsL.of b3.hz ?_
      refine Ls.of b3.hz (Need.mk (by rw [List.length_map, sizeLine_eq]; omega) ?_)
      have b4 := b3.putz (zs' := zs ++ [1]) (l := zs.map V.int ++ [.int 1]) P (by rw [List.map_append]; rfl)
      have hok : okR (ss ++ [s]) 0 = some (zs ++ [1]).length := by
        rw [okR_app, ok, List.length_append]
        cases s <;> first | rfl | exact hl.elim
      have hco : costR (ss ++ [s]) = costR ss + 1 := by
        rw [costR_app]
        cases s <;> first | rfl | exact hl.elim
      exact nx _ _ _ _ b4 hok (by rw [hco]; omega) (by rw [List.length_append]; show ss.length + 1 ≤ _; omega) (by rw [List.length_append]; show zs.length + 1 ≤ _; omega) (by rw [List.length_append]; show 1 ≤ zs.length + 1; omega)
    have caseC : 1 ≤ zs.length → ∀ {DD : L2.Ends}, (∀ (xs : List Addr) (ss : List Stp) (zs : List Int) (W : Hp) (x8 : Option V), Rc K H B a st r z cs xs ss zs W → okR ss 0 = some zs.length → costR ss ≤ i + 1 → ss.length ≤ i + 1 → zs.length ≤ i + 1 → 1 ≤ zs.length → DD.nx [some (.ref a), some (.ref st), some (.ref p), some (.int m), some (.ref r), some (.ref z), some (.int i), some (.int kd), x8] W) →
        (tSeq (tDrop (dML K mApp (dVar 4) (tCons (tOp (oIx K) (dLst (tCons (dTup K (tCons (tC (.str "not")) (tNil))) (tCons (dTup K (tCons (tC (.str "sure")) (tNil))) (tNil)))) (tOp oMod (tCB cInt (tCons (dVar 7) (tNil))) (tC (.int 2)))) (tNil)))) (tAsg (tOp (oAdd K) (tOp (oIx K) (dVar 5) (tUn uNeg (tC (.int 1)))) (tC (.int 1))) (gSub (dVar 5) (tUn uNeg (tC (.int 1))) oSet))) DD [some (.ref a), some (.ref st), some (.ref p), some (.int m), some (.ref r), some (.ref z), some (.int i), some (.int kd), x8] W1 := by
      intro hl DD nx
      obtain ⟨zs0, v, rfl⟩ : ∃ zs0 v, zs = zs0 ++ [v] := by
        rcases List.eq_nil_or_concat zs with h | ⟨L, b, h⟩
        · rw [h] at hl; exact absurd hl (by decide)
        · exact ⟨L, b, by rw [h, List.concat_eq_append]⟩
      walk_at "gx"
      refine ⟨fun t1 W2 g1 ht1 => ?_⟩
      refine Need.mk (by rw [sizeLine_eq]; show 1 ≤ 16777216; decide) ⟨fun t2 W3 g2 ht2 => ?_⟩
      refine Need.mk (by rw [sizeLine_eq]; show 2 ≤ 16777216; decide) ⟨fun g ng => ?_⟩
      have g3 := same_new (o := .lst [.ref t1, .ref t2]) ng
      have hg : upd W3 g (.lst [.ref t1, .ref t2]) g = some (.lst [.ref t1, .ref t2]) := upd_same
      have b3 := ((b1.same g1).same g2).same g3
      have ht1 := Same.tup g3 (Same.tup g2 ht1)
      have ht2 := Same.tup g3 ht2
      obtain ⟨x, s, hx, hs, hleaf, hok, hco⟩ : ∃ x s, atI [V.ref t1, V.ref t2] (kd % 2) = some (.ref x) ∧ StA K B (upd W3 g (.lst [.ref t1, .ref t2])) x s ∧ s.isLeaf = false ∧ okR (ss ++ [s]) 0 = some (zs0 ++ [v]).length ∧ costR (ss ++ [s]) = costR ss + 1 := by
        rcases Int.emod_two_eq kd with h | h
        · exact ⟨t1, .not, by rw [h]; rfl, ht1, rfl, by rw [okR_app, ok]; show (if 1 ≤ (zs0 ++ [v]).length then okR [] (zs0 ++ [v]).length else none) = _; rw [if_pos hl]; rfl, by rw [costR_app]; rfl⟩
        · exact ⟨t2, .sure, by rw [h]; rfl, ht2, rfl, by rw [okR_app, ok]; show (if 1 ≤ (zs0 ++ [v]).length then okR [] (zs0 ++ [v]).length else none) = _; rw [if_pos hl]; rfl, by rw [costR_app]; rfl⟩
      refine Need.mk (by show (0 : Int) < 2; decide) ?_
      refine Rd.l hg (S.At.of (v := .ref x) hx ?_)
      refine Ls.of b3.hr (Need.mk (by rw [List.length_map, sizeLine_eq]; omega) ?_)
      have b4 := b3.putr P hs fun h => by rw [hleaf] at h; cases h
      have hz4 : upd (upd W3 g (.lst [.ref t1, .ref t2])) r (.lst (xs.map V.ref ++ [.ref x])) z = some (.lst (zs0.map V.int ++ [.int v])) := by rw [b4.hz, List.map_append]; rfl
      refine Rd.l hz4 (S.At.of (v := .int v) (at_m1 _ _) ?_)
      refine Ls.of hz4 (Pl.of (ixN_last _ _) ?_)
      rw [set_lastV]
      have b5 := b4.putz (zs' := zs0 ++ [v + 1]) (l := zs0.map V.int ++ [.int (v + 1)]) P (by rw [List.map_append]; rfl)
      rw [List.length_append] at hok lz
      exact nx _ _ _ _ _ b5 (by rw [hok, List.length_append]; rfl) (by rw [hco]; omega) (by rw [List.length_append]; show ss.length + 1 ≤ _; omega) (by rw [List.length_append]; show zs0.length + 1 ≤ _; have : zs0.length + 1 ≤ i := lz; omega) (by rw [List.length_append]; show 1 ≤ zs0.length + 1; omega)
    have caseA : 7 < kd → 2 ≤ zs.length → ∀ {DD : L2.Ends}, (∀ (xs : List Addr) (ss : List Stp) (zs : List Int) (W : Hp) (x8 : Option V), Rc K H B a st r z cs xs ss zs W → okR ss 0 = some zs.length → costR ss ≤ i + 1 → ss.length ≤ i + 1 → zs.length ≤ i + 1 → 1 ≤ zs.length → DD.nx [some (.ref a), some (.ref st), some (.ref p), some (.int m), some (.ref r), some (.ref z), some (.int i), some (.int kd), x8] W) →
        (tSeq (tDrop (dML K mApp (dVar 4) (tCons (tOp (oIx K) (dLst (tCons (dTup K (tCons (tC (.str "and")) (tNil))) (tCons (dTup K (tCons (tC (.str "or")) (tNil))) (tNil)))) (tOp oSub (dVar 7) (tC (.int 8)))) (tNil)))) (tSeq (tAsg (dML K mPop (dVar 5) tNil) (gName 8)) (tAsg (tOp (oAdd K) (tOp (oAdd K) (tOp (oIx K) (dVar 5) (tUn uNeg (tC (.int 1)))) (dVar 8)) (tC (.int 1))) (gSub (dVar 5) (tUn uNeg (tC (.int 1))) oSet)))) DD [some (.ref a), some (.ref st), some (.ref p), some (.int m), some (.ref r), some (.ref z), some (.int i), some (.int kd), x8] W1 := by
      intro hk hl DD nx
      obtain ⟨zs0, u, v, rfl⟩ : ∃ zs0 u v, zs = zs0 ++ [u] ++ [v] := by
        rcases List.eq_nil_or_concat zs with h | ⟨L, b, h⟩
        · rw [h] at hl; exact absurd hl (by decide)
        · rw [List.concat_eq_append] at h
          rcases List.eq_nil_or_concat L with h2 | ⟨L2, b2, h2⟩
          · rw [h, h2] at hl; exact absurd hl (by show ¬ 2 ≤ 1; decide)
          · rw [List.concat_eq_append] at h2
            exact ⟨L2, b2, b, by rw [h, h2]⟩
      walk_at "gx"
      refine ⟨fun t1 W2 g1 ht1 => ?_⟩
      refine Need.mk (by rw [sizeLine_eq]; show 1 ≤ 16777216; decide) ⟨fun t2 W3 g2 ht2 => ?_⟩
      refine Need.mk (by rw [sizeLine_eq]; show 2 ≤ 16777216; decide) ⟨fun g ng => ?_⟩
      have g3 := same_new (o := .lst [.ref t1, .ref t2]) ng
      have hg : upd W3 g (.lst [.ref t1, .ref t2]) g = some (.lst [.ref t1, .ref t2]) := upd_same
      have b3 := ((b1.same g1).same g2).same g3
      have ht1 := Same.tup g3 (Same.tup g2 ht1)
      have ht2 := Same.tup g3 ht2
      obtain ⟨x, s, hx, hs, hleaf, hok, hco⟩ : ∃ x s, atI [V.ref t1, V.ref t2] (kd - 8) = some (.ref x) ∧ StA K B (upd W3 g (.lst [.ref t1, .ref t2])) x s ∧ s.isLeaf = false ∧ okR (ss ++ [s]) 0 = some ((zs0 ++ [u] ++ [v]).length - 1) ∧ costR (ss ++ [s]) = costR ss := by
        rcases (show kd = 8 ∨ kd = 9 by omega) with h | h
        · exact ⟨t1, .and, by rw [h]; rfl, ht1, rfl, by rw [okR_app, ok]; show (if 2 ≤ (zs0 ++ [u] ++ [v]).length then okR [] ((zs0 ++ [u] ++ [v]).length - 1) else none) = _; rw [if_pos hl]; rfl, by rw [costR_app]; rfl⟩
        · exact ⟨t2, .or, by rw [h]; rfl, ht2, rfl, by rw [okR_app, ok]; show (if 2 ≤ (zs0 ++ [u] ++ [v]).length then okR [] ((zs0 ++ [u] ++ [v]).length - 1) else none) = _; rw [if_pos hl]; rfl, by rw [costR_app]; rfl⟩
      refine Rd.l hg (S.At.of (v := .ref x) hx ?_)
      refine Ls.of b3.hr (Need.mk (by rw [List.length_map, sizeLine_eq]; omega) ?_)
      have b4 := b3.putr P hs fun h => by rw [hleaf] at h; cases h
      have hz4 : upd (upd W3 g (.lst [.ref t1, .ref t2])) r (.lst (xs.map V.ref ++ [.ref x])) z = some (.lst (zs0.map V.int ++ [.int u] ++ [.int v])) := by rw [b4.hz, List.map_append, List.map_append]; rfl
      refine IsL.of hz4 ?_
      refine Ls.of hz4 (S.At.of (v := .int v) (at_m1 _ _) ?_)
      rw [List.dropLast_concat]
      have b5 := b4.putz (zs' := zs0 ++ [u]) (l := zs0.map V.int ++ [.int u]) P (by rw [List.map_append]; rfl)
      have hz5 : upd (upd (upd W3 g (.lst [.ref t1, .ref t2])) r (.lst (xs.map V.ref ++ [.ref x]))) z (.lst (zs0.map V.int ++ [.int u])) z = some (.lst (zs0.map V.int ++ [.int u])) := upd_same
      refine Rd.l hz5 (S.At.of (v := .int u) (at_m1 _ _) ?_)
      refine Ls.of hz5 (Pl.of (ixN_last _ _) ?_)
      rw [set_lastV]
      have b6 := b5.putz (zs' := zs0 ++ [u + v + 1]) (l := zs0.map V.int ++ [.int (u + v + 1)]) P (by rw [List.map_append]; rfl)
      have l3 : (zs0 ++ [u] ++ [v]).length = zs0.length + 2 := by rw [List.length_append, List.length_append]; rfl
      have l4 : (zs0 ++ [u + v + 1]).length = zs0.length + 1 := List.length_append ..
      rw [l3] at hok lz
      exact nx _ _ _ _ _ b6 (by rw [hok, l4]; rfl) (by rw [hco]; omega) (by rw [List.length_append]; show ss.length + 1 ≤ _; omega) (by rw [l4]; omega) (by rw [l4]; omega)
    have caseB : 1 ≤ zs.length → ∀ {DD : L2.Ends}, (∀ (xs : List Addr) (ss : List Stp) (zs : List Int) (W : Hp) (x8 : Option V), Rc K H B a st r z cs xs ss zs W → okR ss 0 = some zs.length → costR ss ≤ i + 1 → ss.length ≤ i + 1 → zs.length ≤ i + 1 → 1 ≤ zs.length → DD.nx [some (.ref a), some (.ref st), some (.ref p), some (.int m), some (.ref r), some (.ref z), some (.int i), some (.int kd), x8] W) →
        (tSeq (tDrop (dML K mApp (dVar 4) (tCons (dTup K (tCons (tC (.str "twice")) (tNil))) (tNil)))) (tDrop (dML K mApp (dVar 5) (tCons (tOp (oIx K) (dVar 5) (tUn uNeg (tC (.int 1)))) (tNil))))) DD [some (.ref a), some (.ref st), some (.ref p), some (.int m), some (.ref r), some (.ref z), some (.int i), some (.int kd), x8] W1 := by
      intro hl DD nx
      obtain ⟨zs0, v, rfl⟩ : ∃ zs0 v, zs = zs0 ++ [v] := by
        rcases List.eq_nil_or_concat zs with h | ⟨L, b, h⟩
        · rw [h] at hl; exact absurd hl (by decide)
        · exact ⟨L, b, by rw [h, List.concat_eq_append]⟩
      walk_at "gx"
      refine ⟨fun t1 W2 g1 ht1 => ?_⟩
      have b3 := b1.same g1
      refine Ls.of b3.hr (Need.mk (by rw [List.length_map, sizeLine_eq]; omega) ?_)
      have hok : okR (ss ++ [.twice]) 0 = some ((zs0 ++ [v]).length + 1) := by rw [okR_app, ok]; show (if 1 ≤ (zs0 ++ [v]).length then okR [] ((zs0 ++ [v]).length + 1) else none) = _; rw [if_pos hl]; rfl
      have b4 := b3.putr (s := .twice) P ht1 fun h => by cases h
      have hz4 : upd W2 r (.lst (xs.map V.ref ++ [.ref t1])) z = some (.lst (zs0.map V.int ++ [.int v])) := by rw [b4.hz, List.map_append]; rfl
      walk_at "gx"
      refine S.At.of (v := .int v) (at_m1 _ _) ?_
      have l4 : (zs0 ++ [v] ++ [v]).length = zs0.length + 2 := by rw [List.length_append, List.length_append]; rfl
      have l3 : (zs0 ++ [v]).length = zs0.length + 1 := List.length_append ..
      rw [l3] at lz hok
      refine Ls.of hz4 (Need.mk (by rw [List.length_append, List.length_map, sizeLine_eq]; show zs0.length + 1 < _; omega) ?_)
      have b5 := b4.putz (zs' := zs0 ++ [v] ++ [v]) (l := zs0.map V.int ++ [.int v] ++ [.int v]) P (by rw [List.map_append, List.map_append]; rfl)
      exact nx _ _ _ _ _ b5 (by rw [hok, l4]) (by rw [costR_app]; show costR ss + 1 ≤ _; omega) (by rw [List.length_append]; show ss.length + 1 ≤ _; omega) (by rw [l4]; omega) (by rw [l4]; omega)
    have pack : ∀ (xs : List Addr) (ss : List Stp) (zs : List Int) (W : Hp) (x8 : Option V), Rc K H B a st r z cs xs ss zs W → okR ss 0 = some zs.length → costR ss ≤ i + 1 → ss.length ≤ i + 1 → zs.length ≤ i + 1 → 1 ≤ zs.length →
        ∃ (xs : List Addr) (ss : List Stp) (zs : List Int) (x6 x7 x8' : Option V), [some (V.ref a), some (.ref st), some (.ref p), some (.int m), some (.ref r), some (.ref z), some (.int i), some (.int kd), x8] = [some (.ref a), some (.ref st), some (.ref p), some (.int m), some (.ref r), some (.ref z), x6, x7, x8'] ∧ Rc K H B a st r z cs xs ss zs W ∧ okR ss 0 = some zs.length ∧ costR ss ≤ i + 1 ∧ ss.length ≤ i + 1 ∧ zs.length ≤ i + 1 ∧ (i + 1 ≠ 0 → 1 ≤ zs.length) := fun xs ss zs W x8 b h1 h2 h3 h4 h5 => ⟨xs, ss, zs, _, _, _, rfl, b, h1, h2, h3, h4, fun _ => h5⟩
    walk_at "gx"
    refine ifd (fun hA => ?_) (fun hA => ?_)
    · refine Rd.l hzW ?_
      rw [lzS]
      refine ifd (fun hl => ?_) (fun hl => ?_)
      · exact caseA hA (by omega) pack
      · refine ifd (fun h7 => ?_) (fun _ => ?_)
        · omega
        · refine ifd (fun _ => ?_) (fun h => absurd (show (4 : Int) < kd by omega) h)
          refine Rd.l hzW ?_
          rw [lzS]
          refine ifd (fun hl => ?_) (fun hl => ?_)
          · exact caseC (by omega) pack
          · exact leaf fun xs ss zs W b h1 h2 h3 h4 h5 => pack xs ss zs W x8 b h1 h2 h3 h4 h5
    · refine ifd (fun h7 => ?_) (fun h7 => ?_)
      · refine Rd.l hzW ?_
        rw [lzS]
        refine ifd (fun hl => ?_) (fun hl => ?_)
        · refine SumL.of hzW ?_
          refine ifd (fun hs7 => ?_) (fun hs7 => ?_)
          · exact caseB (by omega) pack
          · skip
            refine ifd (fun _ => ?_) (fun _ => ?_)
            · refine Rd.l hzW ?_
              rw [lzS]
              refine ifd (fun hl => ?_) (fun hl => ?_)
              · exact caseC (by omega) pack
              · exact leaf fun xs ss zs W b h1 h2 h3 h4 h5 => pack xs ss zs W x8 b h1 h2 h3 h4 h5
            · exact leaf fun xs ss zs W b h1 h2 h3 h4 h5 => pack xs ss zs W x8 b h1 h2 h3 h4 h5
        · skip
          refine ifd (fun _ => ?_) (fun _ => ?_)
          · refine Rd.l hzW ?_
            rw [lzS]
            refine ifd (fun hl => ?_) (fun hl => ?_)
            · exact caseC (by omega) pack
            · exact leaf fun xs ss zs W b h1 h2 h3 h4 h5 => pack xs ss zs W x8 b h1 h2 h3 h4 h5
          · exact leaf fun xs ss zs W b h1 h2 h3 h4 h5 => pack xs ss zs W x8 b h1 h2 h3 h4 h5
      · skip
        refine ifd (fun _ => ?_) (fun _ => ?_)
        · refine Rd.l hzW ?_
          rw [lzS]
          refine ifd (fun hl => ?_) (fun hl => ?_)
          · exact caseC (by omega) pack
          · exact leaf fun xs ss zs W b h1 h2 h3 h4 h5 => pack xs ss zs W x8 b h1 h2 h3 h4 h5
        · exact leaf fun xs ss zs W b h1 h2 h3 h4 h5 => pack xs ss zs W x8 b h1 h2 h3 h4 h5
  · rintro σ W ⟨xs, ss, zs, x6, x7, x8, rfl, b, ok, co, ls, lz, l1⟩
    walk_at "gx"
    refine Rd.l b.hz ?_
    refine Need.mk (by rw [List.length_map]; constructor <;> dsimp only <;> omega) ?_
    show LoopR _ _ _ _ (Itr 0 (((zs.map V.int).length : Int) - 1).toNat) W
    refine for_rng (fun k σ W => ∃ (xs : List Addr) (ss : List Stp) (x6 x7 x8 : Option V), σ = [some (.ref a), some (.ref st), some (.ref p), some (.int m), some (.ref r), some (.ref z), x6, x7, x8] ∧ Rc K H B a st r z cs xs ss zs W ∧ k + 1 ≤ zs.length ∧ okR ss 0 = some (zs.length - k) ∧ (costR ss : Int) ≤ m ∧ (ss.length : Int) ≤ n + 1 + k) ⟨xs, ss, x6, x7, x8, rfl, b, by omega, ok, by omega, by omega⟩ ?_ ?_
    · rintro k σ W hk ⟨xs, ss, x6, x7, x8, rfl, b, lk, ok, co, ls⟩
      have hk : (k : Int) < ((zs.map V.int).length : Int) - 1 := hk
      rw [List.length_map] at hk
      have hrW := b.hr
      have lxs : xs.length = ss.length := (Paired.length b.hs).symm
      walk_at "gx"
      refine ⟨fun t1 W1 g1 ht1 => ?_⟩
      refine Need.mk (by rw [sizeLine_eq]; show 1 ≤ 16777216; decide) ⟨fun t2 W2 g2 ht2 => ?_⟩
      refine Need.mk (by rw [sizeLine_eq]; show 2 ≤ 16777216; decide) ⟨fun g ng => ?_⟩
      have g3 := same_new (o := .lst [.ref t1, .ref t2]) ng
      have hg : upd W2 g (.lst [.ref t1, .ref t2]) g = some (.lst [.ref t1, .ref t2]) := upd_same
      have b3 := ((b.same g1).same g2).same g3
      have gst := ctx_ne ((b.same g1).same g2).c ng
      have ht1 := Same.tup g3 (Same.tup g2 ht1)
      have ht2 := Same.tup g3 ht2
      refine ⟨a, st, _, rfl, b3.c, by decide, fun w W4 w0 w1 c4 e4 => ?_⟩
      have b4 := b3.x P e4 c4
      have w1 : w < 2 := w1
      obtain ⟨j, rfl⟩ := Int.eq_ofNat_of_zero_le w0
      obtain ⟨x, s, hx, hs, hleaf, hok, hco⟩ : ∃ x s, ([V.ref t1, V.ref t2])[j]? = some (.ref x) ∧ StA K B W4 x s ∧ s.isLeaf = false ∧ okR (ss ++ [s]) 0 = some (zs.length - (k + 1)) ∧ costR (ss ++ [s]) = costR ss := by
        have two : 2 ≤ zs.length - k := by omega
        rcases j with _ | _ | j
        · exact ⟨t1, .and, rfl, e4.tup ht1 (ctx_st b3.c).choose_spec, rfl, by rw [okR_app, ok]; show (if 2 ≤ zs.length - k then okR [] (zs.length - k - 1) else none) = _; rw [if_pos two]; rfl, by rw [costR_app]; rfl⟩
        · exact ⟨t2, .or, rfl, e4.tup ht2 (ctx_st b3.c).choose_spec, rfl, by rw [okR_app, ok]; show (if 2 ≤ zs.length - k then okR [] (zs.length - k - 1) else none) = _; rw [if_pos two]; rfl, by rw [costR_app]; rfl⟩
        · omega
      refine Rd.l (e4 _ _ hg gst) (S.At.of (v := .ref x) (atI_nat hx) ?_)
      refine Ls.of b4.hr (Need.mk (by rw [List.length_map, sizeLine_eq]; omega) ?_)
      exact ⟨xs ++ [x], ss ++ [s], _, _, _, rfl, b4.putr P hs (fun h => by rw [hleaf] at h; cases h), by omega, hok, by rw [hco]; exact co, by rw [List.length_append]; show ((ss.length + 1 : Nat) : Int) ≤ _; omega⟩
    · rintro σ W ⟨xs, ss, x6, x7, x8, rfl, b, lk, ok, co, ls⟩
      have ek : (((zs.map V.int).length : Int) - 1).toNat = zs.length - 1 := by rw [List.length_map]; omega
      rw [ek] at lk ok ls
      walk_at "gx"
      refine q r xs ss W nr b.hr (Paired.mapP b.hs fun _ _ h => h.older fun l hl => ?_) (by rw [ok]; congr 1; omega) co (by omega) b.lf b.c b.s
      cases h : H l with
      | none => rfl
      | some o => rw [f12 _ _ h] at hl; cases hl
end S
namespace S
open PySem PySem.Spec PyProof.Rows L2
def t__law_value_1 (K : Frag) (E : XK) : TS :=
    tRet (dCall (sp__law_number K) (EW E) (tCons (dVar 0) (tCons (dVar 1) (tCons (dVar 2) (tNil)))))
def t__law_value (K : Frag) (E : XK) : TS :=
    tSeq (dIfS (dCmpT (oEq K) (dCall (sp__law_draw K) (EW E) (tCons (dVar 0) (tCons (dVar 1) (tCons (tC (.int 4)) (tNil))))) (tC (.int 1))) (tRet (tC .non)) (tNext))
    (stop (t__law_value_1 K E))
end S
-- fn: _law_value
-- law: k38
-- deps: _law_number Rw
namespace S
open PySem PySem.Spec PyProof.Rows L2
def sp__law_value (K : Frag) : Sp := fun vs H Q _ => ∃ (a st : Addr) (p : Int), vs = [.ref a, .ref st, .int p] ∧ Ctx K H a st ∧ 1 ≤ p ∧ p ≤ 100 ∧
  ∀ (v : Option Int) (H' : Hp), Ctx K H' a st → SameX st H H' → Q (vRow v) H'
theorem pure__law_value {K : Frag} (vs : List V) (H : Hp) (Q : VK) (E : XK) (h : sp__law_value K vs H Q E) : t__law_value K E { nx := fun _ H' => Q .non H', rt := Q } (start ["_law_script", "_law_state", "_law_places"] vs) H := by
  obtain ⟨a, st, p, rfl, hc, p1, p2, q⟩ := h
  walk_at "gx"
  refine ⟨a, st, _, rfl, hc, by decide, fun kd H1 k0 k1 c1 e1 => ?_⟩
  walk_at "gx"
  refine ifd (fun hk => ?_) (fun hk => ?_)
  · exact q none H1 c1 e1
  · refine ⟨?_⟩
    exact ⟨a, st, p, rfl, c1, p1, p2, fun r H2 r0 r1 c2 e2 => q (some r) H2 c2 (e1.trans e2)⟩
end S
namespace S
open PySem PySem.Spec PyProof.Rows L2
def t__law_same_2 (K : Frag) (E : XK) : TS :=
    tRet (tOp oIsN (dVar 0) (tC .non))
def t__law_same_1 (K : Frag) (E : XK) : TS :=
    tSeq (dIfS (dCmpT oIsT (dVar 1) (tC (.bl false))) (tRet (tOp oIsT (dVar 0) (tC (.bl false)))) (tNext))
    (stop (t__law_same_2 K E))
def t__law_same (K : Frag) (E : XK) : TS :=
    tSeq (dIfS (dCmpT oIsT (dVar 1) (tC (.bl true))) (tRet (tOp oIsT (dVar 0) (tC (.bl true)))) (tNext))
    (stop (t__law_same_1 K E))
end S
-- fn: _law_same
-- law: k42
-- deps: Qs
namespace S
open PySem PySem.Spec PyProof.Rows L2
def sp__law_same (K : Frag) : Sp := fun vs H Q _ => ∃ o : Option Bool, vs = [vT o, vT o] ∧ Q (.bl true) H
theorem pure__law_same {K : Frag} (vs : List V) (H : Hp) (Q : VK) (E : XK) (h : sp__law_same K vs H Q E) : t__law_same K E { nx := fun _ H' => Q .non H', rt := Q } (start ["_law_answer", "_law_due"] vs) H := by
  obtain ⟨o, rfl, q⟩ := h
  rcases o with _ | _ | _
  · walk_at "gx"
    refine IsT.non ?_
    walk_at "gx"
    refine IsT.non ?_
    walk_at "gx"
    refine ⟨rfl, ?_⟩
    exact q
  · walk_at "gx"
    refine IsT.bl ?_
    walk_at "gx"
    refine IsT.bl ?_
    walk_at "gx"
    refine IsT.bl ?_
    exact q
  · walk_at "gx"
    refine IsT.bl ?_
    walk_at "gx"
    refine IsT.bl ?_
    exact q
end S
namespace S
open PySem PySem.Spec PyProof.Rows L2
def t_Form_value_b1_1 (K : Frag) (E : XK) : TS :=
    tAsg (tOp (oAdd K) (dVar 2) (tOp oMulA (dVar 4) (tOp (oIxD K) (dVar 1) (dVar 3)))) (gName 2)
def t_Form_value_b1 (K : Frag) (E : XK) : TS :=
    tSeq (dIfS (dCmpT oIsN (tOp (oIxD K) (dVar 1) (dVar 3)) (tC .non)) (tRet (tC .non)) (tNext))
    (stop (t_Form_value_b1_1 K E))
def t_Form_value_2 (K : Frag) (E : XK) : TS :=
    tRet (dVar 2)
def t_Form_value_1 (K : Frag) (E : XK) : TS :=
    tSeq (dFor (iSeq K (dAt K "terms" (dVar 0))) (gTup K 2 (gCons (gName 3) (gCons (gName 4) (gNil)))) (t_Form_value_b1 K E))
    (stop (t_Form_value_2 K E))
def t_Form_value (K : Frag) (E : XK) : TS :=
    tSeq (tAsg (dAt K "offset" (dVar 0)) (gName 2))
    (stop (t_Form_value_1 K E))
end S
-- fn: Form.value
-- law: k38
-- dict: row
-- deps: Form_init Fm2 Rw
namespace S
open PySem PySem.Spec PyProof.Rows L2
def sp_Form_value (K : Frag) : Sp := fun vs H Q _ => ∃ (x r : Addr) (T : Tms) (o : Int) (R : Row), vs = [.ref x, .ref r] ∧ Fo K H x T o ∧ L2.Rd H r (.dK (dkR R)) ∧ (∀ t ∈ T, -(2 ^ 64) < t.2 ∧ t.2 < 2 ^ 64) ∧ (∀ t ∈ T, (lkR R t.1).isSome) ∧ Q (vRow (valT R T o)) H
theorem pure_Form_value {K : Frag} (vs : List V) (H : Hp) (Q : VK) (E : XK) (h : sp_Form_value K vs H Q E) : t_Form_value K E { nx := fun _ H' => Q .non H', rt := Q } (start ["self", "row", "value", "name", "weight"] vs) H := by
  obtain ⟨x, r, T, o, R, rfl, hf, hr, wT, inR, q⟩ := h
  obtain ⟨cf, so, lT, dx, u, ys, s0, hu, hC⟩ := id hf
  walk_at "gx"
  refine Atr.sl cf s0 (i := 0) rfl rfl ?_
  walk_at "gx"
  refine Atr.sl cf s0 (i := 1) rfl rfl ?_
  refine for_seq (K := K) (fun i σ H1 => H1 = H ∧ ∃ (w : Int) (a b : Option V), σ = [some (.ref x), some (.ref r), some (.int w), a, b] ∧ valT R T o = valT R (T.drop i) w) (.inr hu.t) ⟨rfl, _, _, _, rfl, rfl⟩ (fun i σ H' _ z => by rw [z.1]; exact Same.stay (Same.refl _)) ?_ ?_
  · rintro i v σ H1 hi ⟨rfl, w, a, b, rfl, hw⟩
    obtain ⟨t, ht, ad, rfl, hv⟩ := cols_atF hC hi
    have tm := List.mem_of_getElem? ht
    have il : i < T.length := (List.getElem?_eq_some_iff.mp ht).1
    have ed : T.drop i = t :: T.drop (i + 1) := by rw [List.drop_eq_getElem_cons il]; congr 1; exact (List.getElem?_eq_some_iff.mp ht).2
    refine ⟨ad, _, rfl, hv, rfl, _, _, rfl, _, _, rfl, rfl, ?_⟩
    obtain ⟨e, he⟩ := Option.isSome_iff_exists.mp (inR t tm)
    have hg : valV (dkR R) (.inr t.1) = some (vRow e) := by rw [dkR_val, he]; rfl
    rw [ed] at hw
    walk_at "gx"
    refine DG.s hr hg ?_
    cases e with
    | none =>
      have hw : valT R T o = none := by
        rw [hw]
        show (match lkR R t.1 with | some (some c) => valT R (T.drop (i + 1)) (w + t.2 * c) | _ => none) = none
        rw [he]
      rw [hw] at q
      refine ⟨rfl, ?_⟩
      exact q
    | some c =>
      have hw : valT R T o = valT R (T.drop (i + 1)) (w + t.2 * c) := by
        rw [hw]
        show (match lkR R t.1 with | some (some c) => valT R (T.drop (i + 1)) (w + t.2 * c) | _ => none) = _
        rw [he]
      refine ⟨rfl, ?_⟩
      refine ⟨?_⟩
      refine DG.s hr hg ?_
      refine Need.mk (.inl (wT t tm)) ?_
      exact ⟨rfl, _, _, _, rfl, hw⟩
  · rintro σ H1 ⟨rfl, w, a, b, rfl, hw⟩
    rw [← hC.length, List.drop_length] at hw
    walk_at "gx"
    rw [hw] at q
    exact q
end S
namespace S
open PySem PySem.Spec PyProof.Rows L2
def t_Form_plus_b1 (K : Frag) (E : XK) : TS :=
    tAsg (tOp (oAdd K) (dGetD (dVar 3) (dVar 4) (tC (.int 0))) (tOp oMulA (dVar 2) (dVar 5))) (gSub (dVar 3) (dVar 4) oSetD)
def t_Form_plus_3 (K : Frag) (E : XK) : TS :=
    tRet (dGiv (CF K "Form" ["offset", "terms"]) (dMake K "Form" (sp_Formdd_initdd K) (EW E) (tCons (dVar 3) (tCons (tOp (oAdd K) (dAt K "offset" (dVar 0)) (tOp oMulA (dVar 2) (dAt K "offset" (dVar 1)))) (tNil)))))
def t_Form_plus_2 (K : Frag) (E : XK) : TS :=
    tSeq (dFor (iSeq K (dAt K "terms" (dVar 1))) (gTup K 2 (gCons (gName 4) (gCons (gName 5) (gNil)))) (t_Form_plus_b1 K E))
    (stop (t_Form_plus_3 K E))
def t_Form_plus_1 (K : Frag) (E : XK) : TS :=
    tSeq (tAsg (tCB (cDict K) (tCons (dAt K "terms" (dVar 0)) (tNil))) (gName 3))
    (stop (t_Form_plus_2 K E))
def t_Form_plus (K : Frag) (E : XK) : TS :=
    tSeq (dIfS (dNot (dTest K (dGiv (MF K "Form" [] ["object"]) (tCB (cIsi K) (tCons (dVar 1) (tCons (tC (.ref (He.ga K "Form"))) (tNil))))))) (tRet (dGiv (CF K "Form" ["offset", "terms"]) (dMake K "Form" (sp_Formdd_initdd K) (EW E) (tCons (tCB (cDict K) (tCons (dAt K "terms" (dVar 0)) (tNil))) (tCons (tOp (oAdd K) (dAt K "offset" (dVar 0)) (tOp oMulA (dVar 2) (dVar 1))) (tNil)))))) (tNext))
    (stop (t_Form_plus_1 K E))
end S
-- fn: Form.plus
-- law: k38
-- dict: terms
-- deps: Form_init Fm2 Fstay
namespace S
open PySem PySem.Spec PyProof.Rows L2
/-- the pairs of a form, for dict(..) -/
theorem cols_refs {K : Frag} {H : Hp} : ∀ {ys : List V} {T : Tms}, Cols K H ys T → ∃ ps : List Addr, ys = ps.map V.ref ∧ Paired (fun p (kv : Key × V) => SqT K H p [kV kv.1, kv.2]) ps (dkI T)
  | _, _, .nil => ⟨[], rfl, .nil⟩
  | _, _, .cons ⟨a, e, h⟩ r => by
    obtain ⟨ps, h1, h2⟩ := cols_refs r
    exact ⟨a :: ps, by rw [e, h1]; rfl, .cons h h2⟩
theorem dictC_form {K : Frag} {H : Hp} {u : Addr} {Q : VK} {ys : List V} {T : Tms} (hu : TupF H u ys) (hC : Cols K H ys T) (nd : (nmT T).Nodup) (q : ∀ p, H p = none → Q (.ref p) (upd H p (.dK (dkI T)))) : DictC K H u Q := by
  obtain ⟨ps, rfl, hp⟩ := cols_refs hC
  refine DictC.t hu hp fun p np => ?_
  rw [merge_dkI nd]
  exact q p np
theorem isi_fo {K : Frag} {H : Hp} {a dx : Addr} {vs : List (Option V)} {k : Bool → Prop} (c : FoF K) (hs : SlX.Slt H a (He.ga K "Form") dx vs) (q : k true) : Isi K H (.ref a) (.ref (He.ga K "Form")) k :=
  ⟨.inr ⟨a, _, dx, _, true, rfl, hs, c.sc, c.si, by rw [mf_kit c.mf c.mf]; rfl, q⟩⟩
def sp_Form_plus (K : Frag) : Sp := fun vs H Q _ => ∃ (x : Addr) (T : Tms) (o n : Int) (w : V), vs = [.ref x, w, .int n] ∧ Fo K H x T o ∧ (-(2 ^ 64) < n ∧ n < 2 ^ 64) ∧
  ((∃ m, w = .int m ∧ ∀ y H', Same H H' → H y = none → Fo K H' y T (o + n * m) → Q (.ref y) H') ∨
   (∃ y U p, w = .ref y ∧ Fo K H y U p ∧ T.length + U.length ≤ 60 ∧ ∀ z V H', Same H H' → H z = none → Fo K H' z V (o + n * p) → (∀ s, lkT V s = addL (lkT T s) n (lkT U s)) → Q (.ref z) H'))
theorem pure_Form_plus {K : Frag} (vs : List V) (H : Hp) (Q : VK) (E : XK) (h : sp_Form_plus K vs H Q E) : t_Form_plus K E { nx := fun _ H' => Q .non H', rt := Q } (start ["self", "other", "factor", "terms", "name", "weight"] vs) H := by
  obtain ⟨x, T, o, n, w, rfl, hf, hn, h⟩ := h
  have hf0 := hf
  obtain ⟨cf, so, lT, dx, u, ys, s0, hu, hC⟩ := hf0
  rcases h with ⟨m, rfl, q⟩ | ⟨y, U, p, rfl, hg, ll, q⟩
  · walk_at "gx"
    refine fun mf => ?_
    walk_at "gx"
    refine Isi.of (.base (.int m)) (mf_tyk mf (by decide)) ?_
    refine fun _ => ?_
    refine Atr.sl cf s0 (i := 1) rfl rfl ?_
    refine dictC_form hu hC so.nd fun d nd => ?_
    have e1 := same_new (o := .dK (dkI T)) nd
    have hd : upd H d (.dK (dkI T)) d = some (.dK (dkI T)) := upd_same
    generalize upd H d (.dK (dkI T)) = H1 at *
    refine Atr.sl cf (Same.slt e1 s0) (i := 0) rfl rfl ?_
    refine Need.mk (.inl hn) ?_
    refine mk_form cf (.inl hd) so.nd lT fun V z H' e' nz sV hV fV => ?_
    have : V = T := srt_ext sV so hV
    subst this
    exact q z H' (e1.trans e') (old_none e1 nz) fV
  · obtain ⟨_, so2, lU, dx2, u2, ys2, s2, hu2, hC2⟩ := id hg
    walk_at "gx"
    refine fun mf => ?_
    refine isi_fo cf s2 ?_
    walk_at "gx"
    refine Atr.sl cf s0 (i := 1) rfl rfl ?_
    refine dictC_form hu hC so.nd fun d nd => ?_
    have e1 := same_new (o := .dK (dkI T)) nd
    have hd : upd H d (.dK (dkI T)) d = some (.dK (dkI T)) := upd_same
    generalize upd H d (.dK (dkI T)) = H1 at *
    walk_at "gx"
    refine Atr.sl cf (Same.slt e1 s2) (i := 1) rfl rfl ?_
    refine for_seq0 (K := K) (fun i σ H2 => ∃ (D : Tms) (a b : Option V), σ = [some (.ref x), some (.ref y), some (.int n), some (.ref d), a, b] ∧ H2 d = some (.dK (dkI D)) ∧ (nmT D).Nodup ∧ D.length ≤ T.length + i ∧ (∀ s, lkT D s = addL (lkT T s) n (lkT (U.take i) s)) ∧ Same H H2) (.inr hu2.t) e1
      ⟨T, _, _, rfl, hd, so.nd, Nat.le_refl _, fun s => (addL_none _ _).symm, e1⟩ (fun i σ H' z => z.choose_spec.choose_spec.choose_spec.2.2.2.2.2) ?_ ?_
    · rintro i v σ H2 hi ⟨D, a, b, rfl, h2, nD, lD, hD, e2⟩
      obtain ⟨t, ht, ad, rfl, hv⟩ := cols_atF hC2 hi
      have il : i < U.length := (List.getElem?_eq_some_iff.mp ht).1
      refine ⟨ad, _, rfl, Same.tup e2 hv, rfl, _, _, rfl, _, _, rfl, rfl, ?_⟩
      walk_at "gx"
      refine ⟨.inl ⟨_, .inl h2⟩, DGo.s (.inl h2) ?_⟩
      have eg : ((lkT D t.1).map V.int).getD (.int 0) = .int ((lkT D t.1).getD 0) := by cases lkT D t.1 <;> rfl
      rw [dkI_val, eg]
      refine Need.mk (.inl hn) ?_
      refine StD.s h2 (by unfold dkI; rw [List.length_map, sizeLine_eq]; omega) ?_
      rw [dkI_put]
      refine ⟨_, _, _, rfl, upd_same, nd_put nD _ _, ?_, add_step so2.nd ht hD, Same.mut e2 nd⟩
      have := put_len D t.1 ((lkT D t.1).getD 0 + n * t.2)
      omega
    · rintro σ H2 ⟨D, a, b, rfl, h2, nD, lD, hD, e2⟩
      rw [← hC2.length, List.take_length] at hD
      rw [← hC2.length] at lD
      walk_at "gx"
      refine fun _ => ?_
      refine Atr.sl cf (Same.slt e2 s0) (i := 0) rfl rfl ?_
      refine Atr.sl cf (Same.slt e2 s2) (i := 0) rfl rfl ?_
      refine Need.mk (.inl hn) ?_
      refine mk_form cf (.inl h2) nD (by omega) fun V z H' e' nz sV hV fV => ?_
      exact q z V H' (e2.trans e') (old_none e2 nz) fV fun s => (hV s).trans (hD s)
end S
namespace S
open PySem PySem.Spec PyProof.Rows L2
def t_AtMost_truth_2 (K : Frag) (E : XK) (n : Nat) : TS :=
    tRet (tOp oLe (dVar 2) (dAt K "bound" (dVar 0)))
def t_AtMost_truth_1 (K : Frag) (E : XK) (n : Nat) : TS :=
    tSeq (dIfS (dCmpT oIsN (dVar 2) (tC .non)) (tRet (tC .non)) (tNext))
    (stop (t_AtMost_truth_2 K E n))
def t_AtMost_truth (K : Frag) (E : XK) (n : Nat) : TS :=
    tSeq (tAsg (dMeth K "Form" (sp_Form_value K) (EW E) (dGiv (CF K "Form" ["offset", "terms"]) (dMake K "Form" (spD (sp_Formdd_initdd K) [V.int 0]) (EW E) (tCons (tCB (cDict K) (tCons (dAt K "terms" (dVar 0)) (tNil))) (tNil)))) (tCons (dVar 1) (tNil))) (gName 2))
    (stop (t_AtMost_truth_1 K E n))
end S
-- fn: AtMost.truth
-- law: k39
-- dynself: truth
-- deps: Qs Form_value Form_plus
namespace S
open PySem PySem.Spec PyProof.Rows L2
theorem pure_AtMost_truth {K : Frag} (n : Nat) (vs : List V) (H : Hp) (Q : VK) (E : XK) (h : sp_truth K (n + 1) "AtMost" vs H Q E) : t_AtMost_truth K E n { nx := fun _ H' => Q .non H', rt := Q } (start ["self", "row", "value"] vs) H := by
  obtain ⟨a, r, q, R, rfl, hc, _, hq, _, hr, hin, k⟩ := h
  cases q with
  | atm T b =>
    obtain ⟨d, ⟨so, lT, sm⟩, _, dx, p, u, ys, ha, hu, hC⟩ := hq
    walk_at "gx"
    refine fun cf => ?_
    refine Atr.df d ha rfl ?_
    refine dictC_form hu hC so.nd fun dd nd => ?_
    have e1 := same_new (o := .dK (dkI T)) nd
    have hd : upd H dd (.dK (dkI T)) dd = some (.dK (dkI T)) := upd_same
    generalize upd H dd (.dK (dkI T)) = H1 at *
    refine mk_form cf (.inl hd) so.nd lT fun W f H2 e2 nf sW hW fW => ?_
    have : W = T := srt_ext sW so hW
    subst this
    obtain ⟨_, _, _, _, _, _, s0, _⟩ := id fW
    have e12 := e1.trans e2
    refine .of s0 ⟨f, r, W, 0, R, rfl, fW, Rd.sm hr e12, sm, (fun t ht => hin t.1 (List.mem_map.mpr ⟨t, ht, rfl⟩)), ?_⟩
    have k := k H2 e12
    have k : Q (vT ((valT R W 0).map fun v => decide (v ≤ b))) H2 := k
    walk_at "gx"
    cases hv : valT R W 0 with
    | none =>
      rw [hv] at k
      refine ⟨rfl, ?_⟩
      exact k
    | some c =>
      refine ⟨rfl, ?_⟩
      refine ⟨?_⟩
      rw [hv] at k
      refine Atr.df d (e12 _ _ ha) rfl ?_
      exact k
  | _ => simp only [Qs.cls] at hc; exact absurd hc (by decide)
end S
namespace S
open PySem PySem.Spec PyProof.Rows L2
def t_rank_of_2 (K : Frag) (E : XK) : TS :=
    tRet (tC (.int 0))
def t_rank_of_1 (K : Frag) (E : XK) : TS :=
    tSeq (dIfS (dTest K (dVar 0)) (tRet (tC (.int 2))) (tNext))
    (stop (t_rank_of_2 K E))
def t_rank_of (K : Frag) (E : XK) : TS :=
    tSeq (dIfS (dCmpT oIsN (dVar 0) (tC .non)) (tRet (tC (.int 1))) (tNext))
    (stop (t_rank_of_1 K E))
end S
-- fn: rank_of
-- law: k39
-- deps: Qs
namespace S
open PySem PySem.Spec PyProof.Rows L2
def sp_rank_of (K : Frag) : Sp := fun vs H Q _ => ∃ o : Option Bool, vs = [vT o] ∧ Q (.int (rk o : Nat)) H
theorem pure_rank_of {K : Frag} (vs : List V) (H : Hp) (Q : VK) (E : XK) (h : sp_rank_of K vs H Q E) : t_rank_of K E { nx := fun _ H' => Q .non H', rt := Q } (start ["truth"] vs) H := by
  obtain ⟨o, rfl, q⟩ := h
  cases o with
  | none =>
    walk_at "gx"
    refine ⟨rfl, ?_⟩
    exact q
  | some b =>
    cases b with
    | true =>
      walk_at "gx"
      refine ⟨rfl, ?_⟩
      refine ⟨?_⟩
      exact q
    | false =>
      walk_at "gx"
      refine ⟨rfl, ?_⟩
      refine ⟨?_⟩
      refine ⟨?_⟩
      exact q
theorem rk_lt (o : Option Bool) : rk o < 3 := by cases o with | none => decide | some b => cases b <;> decide
theorem ranked (k : Nat) (h : k < 3) : ([V.bl false, V.non, V.bl true])[k]? = some (vT (unrk k)) := by
  rcases k with _ | _ | _ | k
  · rfl
  · rfl
  · rfl
  · omega
end S
namespace S
open PySem PySem.Spec PyProof.Rows L2
def t_both_truths (K : Frag) (E : XK) : TS :=
    tRet (tOp (oIx K) (dGiv (TupG K "RANKED" [V.bl false, V.non, V.bl true]) (tC (.ref (He.ga K "RANKED")))) (tCB cMin2 (tCons (dCall (sp_rank_of K) (EW E) (tCons (dVar 0) (tNil))) (tCons (dCall (sp_rank_of K) (EW E) (tCons (dVar 1) (tNil))) (tNil)))))
end S
-- fn: both_truths
-- law: k39
-- deps: rank_of
namespace S
open PySem PySem.Spec PyProof.Rows L2
def sp_both_truths (K : Frag) : Sp := fun vs H Q _ => ∃ o p : Option Bool, vs = [vT o, vT p] ∧ Q (vT (ansB o p)) H
theorem pure_both_truths {K : Frag} (vs : List V) (H : Hp) (Q : VK) (E : XK) (h : sp_both_truths K vs H Q E) : t_both_truths K E { nx := fun _ H' => Q .non H', rt := Q } (start ["one", "other"] vs) H := by
  obtain ⟨o, p, rfl, q⟩ := h
  walk_at "gx"
  refine fun tg => ?_
  refine ⟨o, rfl, ?_⟩
  refine ⟨p, rfl, ?_⟩
  have h1 := rk_lt o
  have h2 := rk_lt p
  try refine Rd.sa (.inr (tg H)) ?_
  refine S.At.of (v := vT (ansB o p)) ?_ q
  have e : min (rk o : Int) (rk p : Int) = ((min (rk o) (rk p) : Nat) : Int) := by omega
  show atI _ (min (rk o : Int) (rk p : Int)) = _
  rw [e]
  exact atI_nat (ranked _ (by omega))
end S
namespace S
open PySem PySem.Spec PyProof.Rows L2
def t_Both_truth (K : Frag) (E : XK) (n : Nat) : TS :=
    tRet (dCall (sp_both_truths K) (EW E) (tCons (dDyn K csT "truth" (sp_truth K n) (EW E) (dAt K "one" (dVar 0)) (tCons (dVar 1) (tNil))) (tCons (dDyn K csT "truth" (sp_truth K n) (EW E) (dAt K "other" (dVar 0)) (tCons (dVar 1) (tNil))) (tNil))))
end S
-- fn: Both.truth
-- law: k39
-- dyn: truth
-- dynself: truth
-- deps: Qs both_truths
namespace S
open PySem PySem.Spec PyProof.Rows L2
theorem pure_Both_truth {K : Frag} (n : Nat) (vs : List V) (H : Hp) (Q : VK) (E : XK) (h : sp_truth K (n + 1) "Both" vs H Q E) : t_Both_truth K E n { nx := fun _ H' => Q .non H', rt := Q } (start ["self", "row"] vs) H := by
  obtain ⟨a, r, q, R, rfl, hc, hd, hq, hp, hr, hin, k⟩ := h
  cases q with
  | both q q2 =>
    obtain ⟨d, _, dx, p, b, c, ha, _, hb, hcq⟩ := hq
    have hd : max q.dep q2.dep + 1 ≤ n + 1 := hd
    walk_at "gx"
    refine Atr.df d ha rfl ?_
    refine hb.dyn (by decide) ⟨b, r, q, R, rfl, rfl, by omega, hb, hp.1, hr, (fun z hz => hin z (.inl hz)), fun H1 e1 => ?_⟩
    refine Atr.df d (e1 _ _ ha) rfl ?_
    have hc1 := hcq.same e1
    refine hc1.dyn (by decide) ⟨c, r, q2, R, rfl, rfl, by omega, hc1, hp.2, Rd.sm hr e1, (fun z hz => hin z (.inr hz)), fun H2 e2 => ?_⟩
    exact ⟨_, _, rfl, k H2 (e1.trans e2)⟩
  | _ => simp only [Qs.cls] at hc; exact absurd hc (by decide)
end S
namespace S
open PySem PySem.Spec PyProof.Rows L2
def t_either_truths (K : Frag) (E : XK) : TS :=
    tRet (tOp (oIx K) (dGiv (TupG K "RANKED" [V.bl false, V.non, V.bl true]) (tC (.ref (He.ga K "RANKED")))) (tCB cMax2 (tCons (dCall (sp_rank_of K) (EW E) (tCons (dVar 0) (tNil))) (tCons (dCall (sp_rank_of K) (EW E) (tCons (dVar 1) (tNil))) (tNil)))))
end S
-- fn: either_truths
-- law: k40
-- deps: rank_of
namespace S
open PySem PySem.Spec PyProof.Rows L2
def sp_either_truths (K : Frag) : Sp := fun vs H Q _ => ∃ o p : Option Bool, vs = [vT o, vT p] ∧ Q (vT (ansE o p)) H
theorem pure_either_truths {K : Frag} (vs : List V) (H : Hp) (Q : VK) (E : XK) (h : sp_either_truths K vs H Q E) : t_either_truths K E { nx := fun _ H' => Q .non H', rt := Q } (start ["one", "other"] vs) H := by
  obtain ⟨o, p, rfl, q⟩ := h
  walk_at "gx"
  refine fun tg => ?_
  refine ⟨o, rfl, ?_⟩
  refine ⟨p, rfl, ?_⟩
  have h1 := rk_lt o
  have h2 := rk_lt p
  try refine Rd.sa (.inr (tg H)) ?_
  refine S.At.of (v := vT (ansE o p)) ?_ q
  have e : max (rk o : Int) (rk p : Int) = ((max (rk o) (rk p) : Nat) : Int) := by omega
  show atI _ (max (rk o : Int) (rk p : Int)) = _
  rw [e]
  exact atI_nat (ranked _ (by omega))
end S
namespace S
open PySem PySem.Spec PyProof.Rows L2
def t_Either_truth (K : Frag) (E : XK) (n : Nat) : TS :=
    tRet (dCall (sp_either_truths K) (EW E) (tCons (dDyn K csT "truth" (sp_truth K n) (EW E) (dAt K "one" (dVar 0)) (tCons (dVar 1) (tNil))) (tCons (dDyn K csT "truth" (sp_truth K n) (EW E) (dAt K "other" (dVar 0)) (tCons (dVar 1) (tNil))) (tNil))))
end S
-- fn: Either.truth
-- law: k40
-- dyn: truth
-- dynself: truth
-- deps: Qs either_truths
namespace S
open PySem PySem.Spec PyProof.Rows L2
theorem pure_Either_truth {K : Frag} (n : Nat) (vs : List V) (H : Hp) (Q : VK) (E : XK) (h : sp_truth K (n + 1) "Either" vs H Q E) : t_Either_truth K E n { nx := fun _ H' => Q .non H', rt := Q } (start ["self", "row"] vs) H := by
  obtain ⟨a, r, q, R, rfl, hc, hd, hq, hp, hr, hin, k⟩ := h
  cases q with
  | eith q q2 =>
    obtain ⟨d, _, dx, p, b, c, ha, _, hb, hcq⟩ := hq
    have hd : max q.dep q2.dep + 1 ≤ n + 1 := hd
    walk_at "gx"
    refine Atr.df d ha rfl ?_
    refine hb.dyn (by decide) ⟨b, r, q, R, rfl, rfl, by omega, hb, hp.1, hr, (fun z hz => hin z (.inl hz)), fun H1 e1 => ?_⟩
    refine Atr.df d (e1 _ _ ha) rfl ?_
    have hc1 := hcq.same e1
    refine hc1.dyn (by decide) ⟨c, r, q2, R, rfl, rfl, by omega, hc1, hp.2, Rd.sm hr e1, (fun z hz => hin z (.inr hz)), fun H2 e2 => ?_⟩
    exact ⟨_, _, rfl, k H2 (e1.trans e2)⟩
  | _ => simp only [Qs.cls] at hc; exact absurd hc (by decide)
end S
namespace S
open PySem PySem.Spec PyProof.Rows L2
def t_opposite_truth (K : Frag) (E : XK) : TS :=
    tRet (tOp (oIx K) (dGiv (TupG K "RANKED" [V.bl false, V.non, V.bl true]) (tC (.ref (He.ga K "RANKED")))) (tOp oSub (tC (.int 2)) (dCall (sp_rank_of K) (EW E) (tCons (dVar 0) (tNil)))))
end S
-- fn: opposite_truth
-- law: k40
-- deps: rank_of
namespace S
open PySem PySem.Spec PyProof.Rows L2
def sp_opposite_truth (K : Frag) : Sp := fun vs H Q _ => ∃ o : Option Bool, vs = [vT o] ∧ Q (vT (ansO o)) H
theorem pure_opposite_truth {K : Frag} (vs : List V) (H : Hp) (Q : VK) (E : XK) (h : sp_opposite_truth K vs H Q E) : t_opposite_truth K E { nx := fun _ H' => Q .non H', rt := Q } (start ["truth"] vs) H := by
  obtain ⟨o, rfl, q⟩ := h
  walk_at "gx"
  refine fun tg => ?_
  refine ⟨o, rfl, ?_⟩
  have h1 := rk_lt o
  try refine Rd.sa (.inr (tg H)) ?_
  refine S.At.of (v := vT (ansO o)) ?_ q
  have e : 2 - (rk o : Int) = ((2 - rk o : Nat) : Int) := by omega
  show atI _ (2 - (rk o : Int)) = _
  rw [e]
  exact atI_nat (ranked _ (by omega))
end S
namespace S
open PySem PySem.Spec PyProof.Rows L2
def t_Opposite_truth (K : Frag) (E : XK) (n : Nat) : TS :=
    tRet (dCall (sp_opposite_truth K) (EW E) (tCons (dDyn K csT "truth" (sp_truth K n) (EW E) (dAt K "part" (dVar 0)) (tCons (dVar 1) (tNil))) (tNil)))
end S
-- fn: Opposite.truth
-- law: k40
-- dyn: truth
-- dynself: truth
-- deps: Qs opposite_truth
namespace S
open PySem PySem.Spec PyProof.Rows L2
theorem pure_Opposite_truth {K : Frag} (n : Nat) (vs : List V) (H : Hp) (Q : VK) (E : XK) (h : sp_truth K (n + 1) "Opposite" vs H Q E) : t_Opposite_truth K E n { nx := fun _ H' => Q .non H', rt := Q } (start ["self", "row"] vs) H := by
  obtain ⟨a, r, q, R, rfl, hc, hd, hq, hp, hr, hin, k⟩ := h
  cases q with
  | opp q =>
    obtain ⟨d, _, dx, p, b, ha, _, hb⟩ := hq
    have hd : q.dep + 1 ≤ n + 1 := hd
    walk_at "gx"
    refine Atr.df d ha rfl ?_
    refine hb.dyn (by decide) ⟨b, r, q, R, rfl, rfl, by omega, hb, hp, hr, hin, fun H1 e1 => ?_⟩
    exact ⟨_, rfl, k H1 e1⟩
  | _ => simp only [Qs.cls] at hc; exact absurd hc (by decide)
end S
namespace S
open PySem PySem.Spec PyProof.Rows L2
def t_Surely_truth (K : Frag) (E : XK) (n : Nat) : TS :=
    tRet (tOp oIsT (dDyn K csT "truth" (sp_truth K n) (EW E) (dAt K "part" (dVar 0)) (tCons (dVar 1) (tNil))) (tC (.bl true)))
end S
-- fn: Surely.truth
-- law: k40
-- dyn: truth
-- dynself: truth
-- deps: Qs 
namespace S
open PySem PySem.Spec PyProof.Rows L2
theorem pure_Surely_truth {K : Frag} (n : Nat) (vs : List V) (H : Hp) (Q : VK) (E : XK) (h : sp_truth K (n + 1) "Surely" vs H Q E) : t_Surely_truth K E n { nx := fun _ H' => Q .non H', rt := Q } (start ["self", "row"] vs) H := by
  obtain ⟨a, r, q, R, rfl, hc, hd, hq, hp, hr, hin, k⟩ := h
  cases q with
  | sure q =>
    obtain ⟨d, _, dx, p, b, ha, _, hb⟩ := hq
    have hd : q.dep + 1 ≤ n + 1 := hd
    walk_at "gx"
    refine Atr.df d ha rfl ?_
    refine hb.dyn (by decide) ⟨b, r, q, R, rfl, rfl, by omega, hb, hp, hr, hin, fun H1 e1 => ?_⟩
    have k := k H1 e1
    have k : Q (vT (ansS (ans R q))) H1 := k
    exact IsT.o k
  | _ => simp only [Qs.cls] at hc; exact absurd hc (by decide)
end S
namespace S
open PySem PySem.Spec PyProof.Rows L2
def t_Present_truth (K : Frag) (E : XK) (n : Nat) : TS :=
    tRet (tOp oNotN (tOp (oIxD K) (dVar 1) (dAt K "name" (dVar 0))) (tC .non))
end S
-- fn: Present.truth
-- law: k40
-- dynself: truth
-- dict: row
-- deps: Qs
namespace S
open PySem PySem.Spec PyProof.Rows L2
theorem pure_Present_truth {K : Frag} (n : Nat) (vs : List V) (H : Hp) (Q : VK) (E : XK) (h : sp_truth K (n + 1) "Present" vs H Q E) : t_Present_truth K E n { nx := fun _ H' => Q .non H', rt := Q } (start ["self", "row"] vs) H := by
  obtain ⟨a, r, q, R, rfl, hc, hd, hq, hp, hr, hin, k⟩ := h
  cases q with
  | prs z =>
    obtain ⟨d, _, dx, p, ha⟩ := hq
    obtain ⟨e, he⟩ := Option.isSome_iff_exists.mp (hin z rfl)
    have k := k H (Same.refl _)
    have k : Q (.bl (match lkR R z with | some (some _) => true | _ => false)) H := k
    walk_at "gx"
    refine Atr.df d ha rfl ?_
    refine DG.s hr (by rw [dkR_val, he]; rfl) ?_
    refine ⟨rfl, ?_⟩
    rw [he] at k
    cases e <;> exact k
  | _ => simp only [Qs.cls] at hc; exact absurd hc (by decide)
end S
namespace S
open PySem PySem.Spec PyProof.Rows L2
def t_HasBit_truth_1 (K : Frag) (E : XK) (n : Nat) : TS :=
    tRet (tOp (oEq K) (tOp oAnd (tOp oShr (tOp (oIxD K) (dVar 1) (dAt K "name" (dVar 0))) (dAt K "place" (dVar 0))) (tC (.int 1))) (tC (.int 1)))
def t_HasBit_truth (K : Frag) (E : XK) (n : Nat) : TS :=
    tSeq (dIfS (dCmpT oIsN (tOp (oIxD K) (dVar 1) (dAt K "name" (dVar 0))) (tC .non)) (tRet (tC .non)) (tNext))
    (stop (t_HasBit_truth_1 K E n))
end S
-- fn: HasBit.truth
-- law: k40
-- dynself: truth
-- dict: row
-- deps: Qs
namespace S
open PySem PySem.Spec PyProof.Rows L2
theorem pure_HasBit_truth {K : Frag} (n : Nat) (vs : List V) (H : Hp) (Q : VK) (E : XK) (h : sp_truth K (n + 1) "HasBit" vs H Q E) : t_HasBit_truth K E n { nx := fun _ H' => Q .non H', rt := Q } (start ["self", "row"] vs) H := by
  obtain ⟨a, r, q, R, rfl, hc, hd, hq, hp, hr, hin, k⟩ := h
  cases q with
  | bit z i =>
    obtain ⟨d, _, dx, p, ha⟩ := hq
    obtain ⟨e, he⟩ := Option.isSome_iff_exists.mp (hin z rfl)
    have hp : 0 ≤ i ∧ i ≤ 1000 := hp
    have k := k H (Same.refl _)
    have k : Q (vT (match lkR R z with | some (some v) => some (decide ((v / 2 ^ i.toNat) % 2 = 1)) | _ => none)) H := k
    rw [he] at k
    walk_at "gx"
    refine Atr.df d ha rfl ?_
    refine DG.s hr (by rw [dkR_val, he]; rfl) ?_
    cases e with
    | none =>
      refine ⟨rfl, ?_⟩
      exact k
    | some v =>
      refine ⟨rfl, ?_⟩
      refine ⟨?_⟩
      refine Atr.df d ha rfl ?_
      refine DG.s hr (by rw [dkR_val, he]; rfl) ?_
      refine Atr.df d ha rfl ?_
      refine Need.mk hp.1 ?_
      show Q (.bl (decide (Builtin.bitAnd (v / 2 ^ i.toNat) 1 = 1))) H
      rw [bitAnd_m1]
      exact k
  | _ => simp only [Qs.cls] at hc; exact absurd hc (by decide)
end S
namespace S
open PySem PySem.Spec PyProof.Rows L2
def t_law_b1 (K : Frag) (E : XK) : TS :=
    tDrop (dML K mApp (dVar 2) (tCons (dTup K (tCons (dVar 3) (tCons (tOp (oIxD K) (dLst (tCons (tC (.int 3)) (tCons (tC (.int 1)) (tCons (tC (.int 6)) (tCons (tC (.int 40)) (tNil)))))) (dCall (sp__law_draw K) (EW E) (tCons (dVar 0) (tCons (dVar 1) (tCons (tC (.int 4)) (tNil)))))) (tNil)))) (tNil)))
def t_law_b3 (K : Frag) (E : XK) : TS :=
    tAsg (dCall (sp__law_value K) (EW E) (tCons (dVar 0) (tCons (dVar 1) (tCons (tOp (oIxD K) (dVar 9) (tC (.int 1))) (tNil))))) (gSub (dVar 8) (tOp (oIxD K) (dVar 9) (tC (.int 0))) oSetD)
def t_law_b2_2 (K : Frag) (E : XK) : TS :=
    tDrop (dML K mApp (dVar 6) (tCons (dVar 8) (tNil)))
def t_law_b2_1 (K : Frag) (E : XK) : TS :=
    tSeq (dFor (iSeq K (dVar 2)) (gName 9) (t_law_b3 K E))
    (stop (t_law_b2_2 K E))
def t_law_b2 (K : Frag) (E : XK) : TS :=
    tSeq (tAsg (dNewK) (gName 8))
    (stop (t_law_b2_1 K E))
def t_law_b5 (K : Frag) (E : XK) : TS :=
    tAsg (tOp (oIxD K) (dVar 8) (tOp (oIxD K) (dVar 9) (tC (.int 0)))) (gSub (dVar 10) (tOp (oIxD K) (dVar 9) (tC (.int 0))) oSetD)
def t_law_b4_3 (K : Frag) (E : XK) : TS :=
    dIfS (dCmpT (oNeDc K) (dVar 10) (dVar 8)) (tRet (tC (.bl false))) (tNext)
def t_law_b4_2 (K : Frag) (E : XK) : TS :=
    tSeq (dIfS (dNot (dTest K (dCall (sp__law_same K) (EW E) (tCons (dDyn K csT "truth" (sp_truth K nT) (EW E) (dVar 5) (tCons (dVar 10) (tNil))) (tCons (dCall (sp__law_truth K) (EW E) (tCons (dVar 4) (tCons (dVar 8) (tNil)))) (tNil)))))) (tRet (tC (.bl false))) (tNext))
    (stop (t_law_b4_3 K E))
def t_law_b4_1 (K : Frag) (E : XK) : TS :=
    tSeq (dFor (iSeq K (dVar 2)) (gName 9) (t_law_b5 K E))
    (stop (t_law_b4_2 K E))
def t_law_b4 (K : Frag) (E : XK) : TS :=
    tSeq (tAsg (dNewK) (gName 10))
    (stop (t_law_b4_1 K E))
def t_law_8 (K : Frag) (E : XK) : TS :=
    tRet (tC (.bl true))
def t_law_7 (K : Frag) (E : XK) : TS :=
    tSeq (dFor (iSeq K (tOp (oAdd K) (dVar 6) (dLst (tCons (tOp (oIxD K) (dVar 6) (tC (.int 0))) (tNil))))) (gName 8) (t_law_b4 K E))
    (stop (t_law_8 K E))
def t_law_6 (K : Frag) (E : XK) : TS :=
    tSeq (dFor (iRng (tCons (tOp (oAdd K) (tC (.int 1)) (dCall (sp__law_draw K) (EW E) (tCons (dVar 0) (tCons (dVar 1) (tCons (tC (.int 6)) (tNil)))))) (tNil))) (gName 7) (t_law_b2 K E))
    (stop (t_law_7 K E))
def t_law_5 (K : Frag) (E : XK) : TS :=
    tSeq (tAsg (dLst (tNil)) (gName 6))
    (stop (t_law_6 K E))
def t_law_4 (K : Frag) (E : XK) : TS :=
    tSeq (tAsg (dCall (sp__law_question K) (EW E) (tCons (dVar 4) (tNil))) (gName 5))
    (stop (t_law_5 K E))
def t_law_3 (K : Frag) (E : XK) : TS :=
    tSeq (tAsg (dCall (sp__law_recipe K) (EW E) (tCons (dVar 0) (tCons (dVar 1) (tCons (dVar 2) (tCons (tC (.int 12)) (tNil)))))) (gName 4))
    (stop (t_law_4 K E))
def t_law_2 (K : Frag) (E : XK) : TS :=
    tSeq (dFor (iSeq K (dCall (sp__law_names K) (EW E) (tCons (dVar 0) (tCons (dVar 1) (tCons (tOp (oAdd K) (tC (.int 1)) (dCall (sp__law_draw K) (EW E) (tCons (dVar 0) (tCons (dVar 1) (tCons (tC (.int 3)) (tNil)))))) (tNil)))))) (gName 3) (t_law_b1 K E))
    (stop (t_law_3 K E))
def t_law_1 (K : Frag) (E : XK) : TS :=
    tSeq (tAsg (dLst (tNil)) (gName 2))
    (stop (t_law_2 K E))
def t_law (K : Frag) (E : XK) : TS :=
    tSeq (tAsg (dLst (tCons (tC (.int 0)) (tCons (tC (.int 0)) (tCons (tC (.int 0)) (tCons (tC (.int 0)) (tNil)))))) (gName 1))
    (stop (t_law_1 K E))
end S
-- fn: law
-- law: k42
-- dict: _law_row _law_given
-- eqDc: yes
-- dyn: truth
-- csT: AtMost Present HasBit Both Either Opposite Surely
-- nT: 13
-- deps: _law_question _law_truth _law_recipe_k42 _law_value_k38 _law_names _law_same_k42 AtMost_truth Both_truth Either_truth Opposite_truth Surely_truth Present_truth HasBit_truth Rw2 Fstay _law_draw D0 D1
namespace S
open PySem PySem.Spec PyProof.Rows L2
def nmR (R : Row) : List Str := R.map fun t => t.1
theorem lkR_mem : ∀ {R : Row} {t : Str × Option Int}, (nmR R).Nodup → t ∈ R → lkR R t.1 = some t.2
  | t0 :: R, t, nd, h => by
    obtain ⟨h1, h2⟩ := List.pairwise_cons.mp nd
    show (if t0.1 = t.1 then some t0.2 else lkR R t.1) = _
    rcases List.mem_cons.mp h with rfl | h
    · rw [if_pos rfl]
    · rw [if_neg (h1 t.1 (List.mem_map.mpr ⟨t, h, rfl⟩))]
      exact lkR_mem h2 h
theorem lkR_no {z : Str} : ∀ {R : Row}, z ∉ nmR R → lkR R z = none
  | [], _ => rfl
  | t :: R, h => by
    show (if t.1 = z then some t.2 else lkR R z) = none
    rw [if_neg fun e => h (by rw [← e]; exact List.mem_cons_self ..)]
    exact lkR_no fun hm => h (List.mem_cons_of_mem _ hm)
theorem lkR_is {z : Str} {R : Row} (nd : (nmR R).Nodup) (h : z ∈ nmR R) : (lkR R z).isSome := by
  obtain ⟨t, ht, rfl⟩ := List.mem_map.mp h
  rw [lkR_mem nd ht]; rfl
theorem putR_new {R : Row} {z : Str} {c : Option Int} (h : z ∉ nmR R) : putR R z c = R ++ [(z, c)] := by
  unfold putR
  rw [lkR_no h]; rfl
theorem flat_vRow (v : Option Int) : flatB (vRow v) = true := by cases v <;> rfl
theorem dkR_eqs {R : Row} (nd : (nmR R).Nodup) : ∀ p ∈ dkR R, valV (dkR R) p.1 = some p.2 ∧ flatB p.2 = true := fun p hp => by
  obtain ⟨t, ht, rfl⟩ := List.mem_map.mp hp
  refine ⟨?_, flat_vRow _⟩
  rw [dkR_val, lkR_mem nd ht]; rfl
/-- what the law holds -/
structure F42 (K : Frag) (B : Hp) (a st p r q : Addr) (ys : List V) (cs : List Col) (xs : List Addr) (ss : List Stp) (q0 : Qs) (W : Hp) : Prop where
  c : Ctx K W a st
  pst : p ≠ st ∧ r ≠ st
  hp : W p = some (.lst ys)
  hC : Cols K W ys cs
  hr : W r = some (.lst (xs.map V.ref))
  b0 : ∃ o, B st = some o
  hS : Paired (fun s x => StA K B W x s) ss xs
  hq : QA K W q q0
/-- and the rows -/
structure B42 (K : Frag) (U : Hp) (a st l : Addr) (cs : List Col) (rs : List Addr) (W : Hp) : Prop where
  e : SameX st U W
  c : Ctx K W a st
  hl : W l = some (.lst (rs.map V.ref))
  hR : ∀ d ∈ rs, ∃ R : Row, W d = some (.dK (dkR R)) ∧ nmR R = cs.map fun c => c.1
section
variable {K : Frag} {B U W : Hp} {a st p r q l : Addr} {ys : List V} {cs : List Col} {xs : List Addr} {ss : List Stp} {q0 : Qs} {rs : List Addr}
theorem F42.x {W' : Hp} (b : F42 K B a st p r q ys cs xs ss q0 W) (e : SameX st W W') (c : Ctx K W' a st) : F42 K B a st p r q ys cs xs ss q0 W' := by
  obtain ⟨l0, hst⟩ := ctx_st b.c
  obtain ⟨o, h0⟩ := b.b0
  exact ⟨c, b.pst, e _ _ b.hp b.pst.1, b.hC.x e hst, e _ _ b.hr b.pst.2, b.b0, Paired.mapP b.hS fun _ _ h => h.x e hst h0, QA.x e hst b.hq⟩
theorem B42.f (b : B42 K U a st l cs rs W) (F : F42 K B a st p r q ys cs xs ss q0 U) : F42 K B a st p r q ys cs xs ss q0 W := F.x b.e b.c
theorem B42.x {W' : Hp} (b : B42 K U a st l cs rs W) (n : l ≠ st) (e : SameX st W W') (c : Ctx K W' a st) : B42 K U a st l cs rs W' := by
  obtain ⟨l0, hst⟩ := ctx_st b.c
  exact ⟨b.e.trans e, c, e _ _ b.hl n, fun d hd => let ⟨R, h1, h2⟩ := b.hR d hd; ⟨R, e _ _ h1 (fun z => by subst z; rw [hst] at h1; cases h1), h2⟩⟩
theorem B42.put {d : Addr} {R : Row} (b : B42 K U a st l cs rs W) (cU : Ctx K U a st) (nl : U l = none) (h : W d = some (.dK (dkR R))) (hn : nmR R = cs.map fun c => c.1) : B42 K U a st l cs (rs ++ [d]) (upd W l (.lst (rs.map V.ref ++ [.ref d]))) := by
  have ne : ∀ d' R', W d' = some (.dK (dkR R')) → d' ≠ l := fun d' R' h z => by subst z; rw [b.hl] at h; cases h
  refine ⟨SameX.mut b.e nl, b.c.mut cU nl, by rw [upd_same, List.map_append]; rfl, fun d' hd => ?_⟩
  rcases List.mem_append.mp hd with hd | hd
  · obtain ⟨R', h1, h2⟩ := b.hR d' hd
    exact ⟨R', by rw [upd_ne (ne _ _ h1)]; exact h1, h2⟩
  · rw [List.mem_singleton.mp hd]
    exact ⟨R, by rw [upd_ne (ne _ _ h)]; exact h, hn⟩
end
theorem pure_law {K : Frag} (vs : List V) (H : Hp) (Q : VK) (E : XK) (h : sp_law K vs H Q E) : t_law K E { nx := fun _ H' => Q .non H', rt := Q } (start ["_law_script", "_law_state", "_law_columns", "_law_name", "_law_recipe_here", "_law_question_here", "_law_asked", "_law_k", "_law_row", "_law_column", "_law_given"] vs) H := by
  obtain ⟨a, ns, rfl, hs, q⟩ := h
  walk_at "gx"
  refine ⟨fun st nst => ?_⟩
  have c1 : Ctx K (upd H st (.lst [.int 0, .int 0, .int 0, .int 0])) a st := ctx0 hs nst _ ⟨0, 0, 0, 0, rfl, by decide, by decide, .inl rfl⟩
  generalize upd H st (.lst [.int 0, .int 0, .int 0, .int 0]) = H1 at *
  walk_at "gx"
  refine ⟨fun p np => ?_⟩
  have f2 := same_new (o := .lst ([] : List V)) np
  have pst := ctx_ne c1 np
  have c2 := c1.same f2
  have hp2 : upd H1 p (.lst ([] : List V)) p = some (.lst []) := upd_same
  generalize upd H1 p (.lst ([] : List V)) = H2 at *
  walk_at "gx"
  refine ⟨a, st, _, rfl, c2, by decide, fun n H3 n0 n1 c3 e3 => ?_⟩
  have n1 : n < 3 := n1
  have hp3 := e3 _ _ hp2 pst
  refine ⟨a, st, _, rfl, c3, by omega, by omega, fun pn L H4 npn hpn lL nL okn c4 e4 => ?_⟩
  have lL : (L.length : Int) = 1 + n := lL
  have pnst := ctx_ne c3 npn
  have ppn : p ≠ pn := ne_of_none hp3 npn
  have hp4 := e4 _ _ hp3 pst
  refine for_lst (K := K) (xs := L.map V.str) (fun i σ W => ∃ (ys : List V) (cs : List Col) (x3 : Option V), σ = [some (.ref a), some (.ref st), some (.ref p), x3, none, none, none, none, none, none, none] ∧ W p = some (.lst ys) ∧ Cols K W ys cs ∧ (cs.map fun c => c.1) = L.take i ∧ (∀ c ∈ cs, 1 ≤ c.2 ∧ c.2 ≤ 100) ∧ Ctx K W a st ∧ W pn = some (.lst (L.map V.str))) hpn ⟨[], [], _, rfl, hp4, .nil, rfl, (fun _ z => nomatch z), c4, hpn⟩ (fun i σ H' ⟨_, _, _, _, _, _, _, _, _, z⟩ => z) ?_ ?_
  · rintro i v σ W hi ⟨ys, cs, x3, rfl, hy, hC, hcs, okc, c, hw⟩
    obtain ⟨z, hz, rfl⟩ := mget1 hi
    have il : i < L.length := (List.getElem?_eq_some_iff.mp hz).1
    have lcs : cs.length = i := by have := congrArg List.length hcs; rw [List.length_map, List.length_take] at this; omega
    have lys : ys.length = cs.length := (Paired.length hC).symm
    walk_at "gx"
    refine ⟨fun g ng => ?_⟩
    have f1 := same_new (o := .lst [.int 3, .int 1, .int 6, .int 40]) ng
    have gst := ctx_ne c ng
    have c5 := c.same f1
    have hg : upd W g (.lst [.int 3, .int 1, .int 6, .int 40]) g = some (.lst [.int 3, .int 1, .int 6, .int 40]) := upd_same
    have hy1 := f1 _ _ hy
    have hw1 := f1 _ _ hw
    have hC1 := hC.same f1
    generalize upd W g (.lst [.int 3, .int 1, .int 6, .int 40]) = W1 at *
    refine ⟨a, st, _, rfl, c5, by decide, fun w W2 w0 w1 c6 e6 => ?_⟩
    have w1 : w < 4 := w1
    obtain ⟨l5, hst5⟩ := ctx_st c5
    obtain ⟨j, rfl⟩ := Int.eq_ofNat_of_zero_le w0
    have hj : j < 4 := by omega
    obtain ⟨pc, hpc, pc1, pc2⟩ : ∃ pc : Int, ([V.int 3, V.int 1, V.int 6, V.int 40])[j]? = some (.int pc) ∧ 1 ≤ pc ∧ pc ≤ 100 := by
      rcases j with _ | _ | _ | _ | j
      · exact ⟨3, rfl, by decide, by decide⟩
      · exact ⟨1, rfl, by decide, by decide⟩
      · exact ⟨6, rfl, by decide, by decide⟩
      · exact ⟨40, rfl, by decide, by decide⟩
      · omega
    refine Rd.l (e6 _ _ hg gst) (S.At.of (v := .int pc) (atI_nat hpc) ?_)
    refine Need.mk (by rw [sizeLine_eq]; show 2 ≤ 16777216; decide) ⟨fun t W3 e7 ht => ?_⟩
    have hy3 := e7 _ _ (e6 _ _ hy1 pst)
    have hw3 := e7 _ _ (e6 _ _ hw1 pnst)
    have hC3 := (hC1.x e6 hst5).same e7
    have c7 := c6.same e7
    refine Ls.of hy3 (Need.mk (by rw [sizeLine_eq]; omega) ?_)
    have ex : SameX p W3 (upd W3 p (.lst (ys ++ [.ref t]))) := SameX.upd
    refine ⟨ys ++ [.ref t], cs ++ [(z, pc)], _, rfl, upd_same, cols_snocF (hC3.x ex hy3) ⟨t, rfl, ex.tup ht hy3⟩, ?_, fun c hc => ?_, ?_, by rw [upd_ne (Ne.symm ppn)]; exact hw3⟩
    · rw [List.map_append, hcs, List.take_add_one, hz]; rfl
    · rcases List.mem_append.mp hc with hc | hc
      · exact okc c hc
      · rw [List.mem_singleton.mp hc]; exact ⟨pc1, pc2⟩
    · exact c7.mut c1 np
  · rintro σ W ⟨ys, cs, x3, rfl, hy, hC, hcs, okc, c, hw⟩
    rw [List.length_map, List.take_length] at hcs
    have lcs : cs.length = L.length := by have := congrArg List.length hcs; rw [List.length_map] at this; exact this
    have ndC : (cs.map fun c => c.1).Nodup := by rw [hcs]; exact nL
    walk_at "gx"
    refine ⟨a, st, p, _, ys, cs, rfl, c, hy, pst, hC, by omega, ndC, okc, by decide, by decide, fun r xs ss W1 nr hr hS ok co lss lf c1 e1 => ?_⟩
    rw [hcs] at lf
    have co : (costR ss : Int) ≤ 12 := co
    have lss : (ss.length : Int) ≤ 2 * 12 := lss
    obtain ⟨l0, hst0⟩ := ctx_st c
    have rst := ctx_ne c nr
    walk_at "gx"
    refine ⟨W, r, xs, ss, L, rfl, ⟨by unfold inC csT; decide, by unfold inC csT; decide, by unfold inC csT; decide, by unfold inC csT; decide, by unfold inC csT; decide, by unfold inC csT; decide, by unfold inC csT; decide⟩, hr, hS, ok, by omega, lf, by omega, fun qa q0 W2 hq0 e2 hqa => ?_⟩
    have dep : q0.dep ≤ 12 := by
      obtain ⟨q1, h1, h2⟩ := runQ_one (lf := lfQ) lfQ_dep ok
      rw [hq0] at h1
      cases h1
      omega
    have prop : ∀ q ∈ runQ lfQ ss [], q.plc ∧ ∀ z, q.has z → z ∈ L := runQ_all (P := fun q => q.plc ∧ ∀ z, q.has z → z ∈ L) (fun _ _ h g => ⟨⟨h.1, g.1⟩, fun z hz => hz.elim (h.2 z) (g.2 z)⟩) (fun _ _ h g => ⟨⟨h.1, g.1⟩, fun z hz => hz.elim (h.2 z) (g.2 z)⟩) (fun _ h => h) (fun _ h => h) ss [] (fun s hs hl => ⟨plc_leaf (lf s hs hl), has_leaf (lf s hs hl)⟩) (fun _ z => nomatch z)
    obtain ⟨plc, hasq⟩ := prop q0 (by rw [hq0]; exact List.mem_singleton.mpr rfl)
    have c2 := c1.same e2
    have e12 := e1.then e2
    have F : F42 K W a st p r qa ys cs xs ss q0 W2 := ⟨c2, ⟨pst, rst⟩, e12 _ _ hy pst, hC.x e12 hst0, e2 _ _ hr, ⟨_, hst0⟩, Paired.mapP hS fun _ _ h => h.same e2, hqa⟩
    walk_at "gx"
    refine ⟨fun l nl => ?_⟩
    have f3 := same_new (o := .lst ([] : List V)) nl
    have lst := ctx_ne c2 nl
    have b0 : B42 K W2 a st l cs [] (upd W2 l (.lst ([] : List V))) := ⟨Same.x f3, c2.same f3, upd_same, fun _ z => nomatch z⟩
    generalize upd W2 l (.lst ([] : List V)) = W3 at *
    walk_at "gx"
    refine ⟨a, st, _, rfl, b0.c, by decide, fun m W4 m0 m1 c4 e4 => ?_⟩
    have m1 : m < 6 := m1
    have b4 := b0.x lst e4 c4
    refine Need.mk (by omega) ?_
    show LoopR _ _ _ _ (Itr 0 (1 + m).toNat) W4
    refine for_rng (fun i σ W' => ∃ (rs : List Addr) (x3 x7 x8 x9 : Option V), σ = [some (.ref a), some (.ref st), some (.ref p), x3, some (.ref r), some (.ref qa), some (.ref l), x7, x8, x9, none] ∧ B42 K W2 a st l cs rs W' ∧ rs.length = i) ⟨[], _, _, _, _, rfl, b4, rfl⟩ ?_ ?_
    · rintro i σ W5 hi ⟨rs, x3, x7, x8, x9, rfl, b, lrs⟩
      have hi : (i : Int) < 1 + m := hi
      have F5 := b.f F
      obtain ⟨l5, hst5⟩ := ctx_st F5.c
      walk_at "gx"
      refine ⟨fun d nd => ?_⟩
      have g1 := same_new (o := .dK []) nd
      have dst := ctx_ne b.c nd
      have hd : upd W5 d (.dK []) d = some (.dK []) := upd_same
      have c6 := b.c.same g1
      have hp6 := g1 _ _ F5.hp
      generalize upd W5 d (.dK []) = W6 at *
      walk_at "gx"
      refine for_lst (K := K) (xs := ys) (fun j σ W' => ∃ (G : Row) (x9 : Option V), σ = [some (.ref a), some (.ref st), some (.ref p), x3, some (.ref r), some (.ref qa), some (.ref l), some (.int i), some (.ref d), x9, none] ∧ SameX st W5 W' ∧ Ctx K W' a st ∧ W' d = some (.dK (dkR G)) ∧ nmR G = (cs.take j).map fun c => c.1) hp6 ⟨[], _, rfl, Same.x g1, c6, hd, by rw [List.take_zero]; rfl⟩ (fun j σ H' ⟨_, _, _, e, _⟩ => e _ _ F5.hp pst) ?_ ?_
      · rintro j v σ W7 hj ⟨G, x9, rfl, s7, c7, hd7, nG⟩
        obtain ⟨t, ht, ad, rfl, hv⟩ := cols_atF F5.hC hj
        have tm := List.mem_of_getElem? ht
        have jl : j < cs.length := (List.getElem?_eq_some_iff.mp ht).1
        have hv7 := s7.tup hv hst5
        have lG : G.length = j := by have := congrArg List.length nG; unfold nmR at this; rw [List.length_map, List.length_map, List.length_take] at this; omega
        walk_at "gx"
        refine ⟨a, st, _, rfl, c7, (okc t tm).1, (okc t tm).2, fun v W8 c8 e8 => ?_⟩
        obtain ⟨l7, hst7⟩ := ctx_st c7
        have hv8 := e8.tup hv7 hst7
        have hd8 := e8 _ _ hd7 dst
        walk_at "gx"
        refine StD.s hd8 (by rw [dkR_len, sizeLine_eq]; omega) ?_
        have new : t.1 ∉ nmR G := by
          rw [nG, List.map_take]
          exact nodup_takeF ndC (by rw [List.getElem?_map, ht]; rfl)
        rw [dkR_put, putR_new new]
        refine ⟨G ++ [(t.1, v)], _, rfl, SameX.mut (s7.trans e8) nd, c8.mut b.c nd, upd_same, ?_⟩
        unfold nmR at nG ⊢
        rw [List.map_append, nG, List.take_add_one, ht, List.map_append]; rfl
      · rintro σ W7 ⟨G, x9, rfl, s7, c7, hd7, nG⟩
        have lys : ys.length = cs.length := (Paired.length hC).symm
        rw [lys, List.take_length] at nG
        have b7 := b.x lst s7 c7
        have hl7 := b7.hl
        walk_at "gx"
        exact ⟨rs ++ [d], _, _, _, _, rfl, b7.put c2 nl hd7 nG, by rw [List.length_append, lrs]; rfl⟩
    · rintro σ W5 ⟨rs, x3, x7, x8, x9, rfl, b, lrs⟩
      have l1 : 1 ≤ rs.length := by omega
      obtain ⟨r0, rs', rfl⟩ : ∃ r0 rs', rs = r0 :: rs' := by
        match rs, l1 with
        | r0 :: rs', _ => exact ⟨r0, rs', rfl⟩
      have hl5 := b.hl
      walk_at "gx"
      refine S.At.of (v := .ref r0) (show atI _ ((0 : Nat) : Int) = _ from atI_nat rfl) ?_
      refine Need.mk (by rw [sizeLine_eq]; show 1 ≤ 16777216; decide) ⟨fun m2 nm2 => ?_⟩
      have g1 := same_new (o := .lst [.ref r0]) nm2
      have hm2 : upd W5 m2 (.lst [.ref r0]) m2 = some (.lst [.ref r0]) := upd_same
      have b6 := b.x lst (Same.x g1) (b.c.same g1)
      generalize upd W5 m2 (.lst [.ref r0]) = W6 at *
      refine Cat.l b6.hl hm2 (by rw [List.length_map, lrs, sizeLine_eq]; show _ + 1 ≤ _; omega) fun l2 nl2 => ?_
      have g2 := same_new (o := .lst ((r0 :: rs').map V.ref ++ [.ref r0])) nl2
      have hl2 : upd W6 l2 (.lst ((r0 :: rs').map V.ref ++ [.ref r0])) l2 = some (.lst ((r0 :: rs').map V.ref ++ [.ref r0])) := upd_same
      have b7 := b6.x lst (Same.x g2) (b6.c.same g2)
      generalize upd W6 l2 (.lst ((r0 :: rs').map V.ref ++ [.ref r0])) = W7 at *
      refine for_stay (K := K) (fun i σ W' => ∃ (x7 x8 x9 x10 : Option V), σ = [some (.ref a), some (.ref st), some (.ref p), x3, some (.ref r), some (.ref qa), some (.ref l), x7, x8, x9, x10]) (.inl (SqL.of hl2)) ⟨_, _, _, _, rfl⟩ ?_ ?_
      · rintro i v σ W8 hi ⟨x7, x8, x9, x10, rfl⟩ s8
        obtain ⟨d, hd, rfl⟩ : ∃ d ∈ r0 :: rs', v = .ref d := by
          have := List.mem_of_getElem? hi
          rcases List.mem_append.mp this with h | h
          · obtain ⟨d, hd, rfl⟩ := List.mem_map.mp h; exact ⟨d, hd, rfl⟩
          · exact ⟨r0, List.mem_cons_self .., List.mem_singleton.mp h⟩
        have b8 := b7.x lst (Same.x s8) (b7.c.same s8)
        have F8 := b8.f F
        obtain ⟨R, hR, nR⟩ := b8.hR d hd
        have ndR : (nmR R).Nodup := by rw [nR]; exact ndC
        have lR : R.length = cs.length := by have := congrArg List.length nR; unfold nmR at this; rw [List.length_map, List.length_map] at this; exact this
        walk_at "gx"
        refine ⟨fun g ng => ?_⟩
        have g1 := same_new (o := .dK []) ng
        have hg : upd W8 g (.dK []) g = some (.dK []) := upd_same
        generalize upd W8 g (.dK []) = W9 at *
        have hp9 := g1 _ _ F8.hp
        walk_at "gx"
        refine for_seq0 (K := K) (H0 := W8) (fun j σ W' => ∃ (x9 : Option V), σ = [some (.ref a), some (.ref st), some (.ref p), x3, some (.ref r), some (.ref qa), some (.ref l), x7, some (.ref d), x9, some (.ref g)] ∧ Same W8 W' ∧ W' g = some (.dK (dkR (R.take j)))) (.inl (SqL.of F8.hp)) g1 ⟨_, rfl, g1, by rw [List.take_zero]; exact hg⟩ (fun j σ H' ⟨_, _, e, _⟩ => e) ?_ ?_
        · rintro j v σ W10 hj ⟨x9, rfl, e, hg10⟩
          obtain ⟨t, ht, ad, rfl, hv⟩ := cols_atF F8.hC hj
          have hv' := Same.tup e hv
          obtain ⟨u, hu, eu⟩ : ∃ u, R[j]? = some u ∧ u.1 = t.1 := by
            have h1 : (nmR R)[j]? = some t.1 := by rw [nR, List.getElem?_map, ht]; rfl
            unfold nmR at h1
            rw [List.getElem?_map] at h1
            cases h : R[j]? with
            | none => rw [h] at h1; cases h1
            | some u => rw [h] at h1; exact ⟨u, rfl, Option.some.inj h1⟩
          have jl : j < cs.length := (List.getElem?_eq_some_iff.mp ht).1
          walk_at "gx"
          refine DG.s (.inl (e _ _ hR)) (v := vRow u.2) (by rw [dkR_val, ← eu, lkR_mem ndR (List.mem_of_getElem? hu)]; rfl) ?_
          walk_at "gx"
          refine StD.s hg10 (by rw [dkR_len, List.length_take, sizeLine_eq]; omega) ?_
          have new : t.1 ∉ nmR (R.take j) := by
            unfold nmR
            rw [List.map_take]
            exact nodup_takeF ndR (by rw [List.getElem?_map, hu, ← eu]; rfl)
          rw [dkR_put, putR_new new]
          refine ⟨_, rfl, Same.mut e ng, ?_⟩
          rw [upd_same, List.take_add_one, hu, ← eu]; rfl
        · rintro σ W10 ⟨x9, rfl, e, hg10⟩
          have lys : ys.length = R.length := by rw [lR]; exact (Paired.length hC).symm
          rw [lys, List.take_length] at hg10
          have F10 := F8.x (Same.x e) (F8.c.same e)
          have has : ∀ z ∈ L, (lkR R z).isSome := fun z hz => lkR_is ndR (by rw [nR, hcs]; exact hz)
          walk_at "gx"
          refine QA.dyn F10.hq (by decide) ?_
          refine ⟨qa, g, q0, R, rfl, rfl, Nat.le_trans dep (by unfold nT; decide), F10.hq, plc, .inl hg10, fun z hz => has z (hasq z hz), fun W11 e11 => ?_⟩
          have F11 := F10.x (Same.x e11) (F10.c.same e11)
          refine ⟨W, r, d, xs, ss, L, R, q0, rfl, F11.hr, F11.hS, ok, by omega, lf, .inl (e11 _ _ (e _ _ hR)), has, hq0, fun W12 e12 => ?_⟩
          refine ⟨ans R q0, rfl, ?_⟩
          have e8 := (e.trans e11).trans e12
          walk_at "gx"
          refine EqDc.d (e12 _ _ (e11 _ _ hg10)) (e8 _ _ hR) rfl (dkR_eqs ndR) ?_
          walk_at "gx"
          exact ⟨⟨_, _, _, _, rfl⟩, s8.trans e8⟩
      · rintro σ W8 ⟨x7, x8, x9, x10, rfl⟩ s8
        walk_at "gx"
        exact q _
end S
namespace S
open PySem PySem.Spec PyProof.Rows L2
theorem sc__law_draw : FnScope ["_law_script", "_law_state", "_law_base", "_law_here", "_law_number_here", "_law_digit", "_law_mixed"] ["_law_script", "_law_state", "_law_base"] (defScope s__law_draw) := ⟨rfl, rfl, rfl, by decide +kernel, rfl, by decide +kernel, by decide +kernel⟩
theorem sc__law_names : FnScope ["_law_script", "_law_state", "_law_count", "_law_letters", "_law_names_here", "_law_k", "_law_head", "_law_j", "_law_tail", "_law_name", "_law_word"] ["_law_script", "_law_state", "_law_count"] (defScope s__law_names) := ⟨rfl, rfl, rfl, by decide +kernel, rfl, by decide +kernel, by decide +kernel⟩
theorem sc__law_wide : FnScope ["_law_script", "_law_state", "_law_limit", "_law_number_here", "_law_k"] ["_law_script", "_law_state", "_law_limit"] (defScope s__law_wide) := ⟨rfl, rfl, rfl, by decide +kernel, rfl, by decide +kernel, by decide +kernel⟩
theorem sc__law_number : FnScope ["_law_script", "_law_state", "_law_places", "_law_half", "_law_kind", "_law_number_here", "_law_power"] ["_law_script", "_law_state", "_law_places"] (defScope s__law_number) := ⟨rfl, rfl, rfl, by decide +kernel, rfl, by decide +kernel, by decide +kernel⟩
theorem sc__law_leaf : FnScope ["_law_script", "_law_state", "_law_columns", "_law_kind", "_law_column", "_law_terms", "_law_bound", "_law_factor"] ["_law_script", "_law_state", "_law_columns"] (defScope s__law_leaf) := ⟨rfl, rfl, rfl, by decide +kernel, rfl, by decide +kernel, by decide +kernel⟩
theorem sc__law_recipe : FnScope ["_law_script", "_law_state", "_law_columns", "_law_most", "_law_recipe_here", "_law_sizes", "_law_k", "_law_kind", "_law_last"] ["_law_script", "_law_state", "_law_columns", "_law_most"] (defScope s__law_recipe) := ⟨rfl, rfl, rfl, by decide +kernel, rfl, by decide +kernel, by decide +kernel⟩
theorem sc_Questiondd_initdd : FnScope ["self", "parts"] ["self", "parts"] (defScope s_Questiondd_initdd) := ⟨rfl, rfl, rfl, by decide +kernel, rfl, by decide +kernel, by decide +kernel⟩
theorem sc_Bothdd_initdd : NdefX.NScope ["self", "one", "other", "__class__"] ["self", "one", "other"] ["__class__"] (defScope s_Bothdd_initdd) := NdefX.nscope_by (by decide +kernel)
theorem sc_Questiondd_anddd : FnScope ["self", "other"] ["self", "other"] (defScope s_Questiondd_anddd) := ⟨rfl, rfl, rfl, by decide +kernel, rfl, by decide +kernel, by decide +kernel⟩
theorem sc_Eitherdd_initdd : NdefX.NScope ["self", "one", "other", "__class__"] ["self", "one", "other"] ["__class__"] (defScope s_Eitherdd_initdd) := NdefX.nscope_by (by decide +kernel)
theorem sc_Questiondd_ordd : FnScope ["self", "other"] ["self", "other"] (defScope s_Questiondd_ordd) := ⟨rfl, rfl, rfl, by decide +kernel, rfl, by decide +kernel, by decide +kernel⟩
theorem sc_Oppositedd_initdd : NdefX.NScope ["self", "part", "__class__"] ["self", "part"] ["__class__"] (defScope s_Oppositedd_initdd) := NdefX.nscope_by (by decide +kernel)
theorem sc_Questiondd_invertdd : FnScope ["self"] ["self"] (defScope s_Questiondd_invertdd) := ⟨rfl, rfl, rfl, by decide +kernel, rfl, by decide +kernel, by decide +kernel⟩
theorem sc_Surelydd_initdd : NdefX.NScope ["self", "part", "__class__"] ["self", "part"] ["__class__"] (defScope s_Surelydd_initdd) := NdefX.nscope_by (by decide +kernel)
theorem sc_Question_surely : FnScope ["self"] ["self"] (defScope s_Question_surely) := ⟨rfl, rfl, rfl, by decide +kernel, rfl, by decide +kernel, by decide +kernel⟩
theorem sc_Presentdd_initdd : NdefX.NScope ["self", "name", "__class__"] ["self", "name"] ["__class__"] (defScope s_Presentdd_initdd) := NdefX.nscope_by (by decide +kernel)
theorem sc_HasBitdd_initdd : NdefX.NScope ["self", "name", "place", "__class__"] ["self", "name", "place"] ["__class__"] (defScope s_HasBitdd_initdd) := NdefX.nscope_by (by decide +kernel)
theorem sc_Formdd_initdd : FnScope ["self", "terms", "offset", "name"] ["self", "terms", "offset"] (defScope s_Formdd_initdd) := ⟨rfl, rfl, rfl, by decide +kernel, rfl, by decide +kernel, by decide +kernel⟩
theorem sc_AtMostdd_initdd : NdefX.NScope ["self", "form", "bound", "__class__"] ["self", "form", "bound"] ["__class__"] (defScope s_AtMostdd_initdd) := NdefX.nscope_by (by decide +kernel)
theorem sc__law_question : FnScope ["_law_recipe_here", "_law_stack", "_law_step", "_law_last", "_law_factors", "_law_term"] ["_law_recipe_here"] (defScope s__law_question) := ⟨rfl, rfl, rfl, by decide +kernel, rfl, by decide +kernel, by decide +kernel⟩
theorem sc__law_value : FnScope ["_law_script", "_law_state", "_law_places"] ["_law_script", "_law_state", "_law_places"] (defScope s__law_value) := ⟨rfl, rfl, rfl, by decide +kernel, rfl, by decide +kernel, by decide +kernel⟩
theorem sc__law_leaf_truth : FnScope ["_law_step", "_law_row", "_law_hit", "_law_total", "_law_term"] ["_law_step", "_law_row"] (defScope s__law_leaf_truth) := ⟨rfl, rfl, rfl, by decide +kernel, rfl, by decide +kernel, by decide +kernel⟩
theorem sc__law_truth : FnScope ["_law_recipe_here", "_law_row", "_law_stack", "_law_step", "_law_last"] ["_law_recipe_here", "_law_row"] (defScope s__law_truth) := ⟨rfl, rfl, rfl, by decide +kernel, rfl, by decide +kernel, by decide +kernel⟩
theorem sc_Form_value : FnScope ["self", "row", "result", "name", "coefficient"] ["self", "row"] (defScope s_Form_value) := ⟨rfl, rfl, rfl, by decide +kernel, rfl, by decide +kernel, by decide +kernel⟩
theorem sc_AtMost_truth : FnScope ["self", "row", "value"] ["self", "row"] (defScope s_AtMost_truth) := ⟨rfl, rfl, rfl, by decide +kernel, rfl, by decide +kernel, by decide +kernel⟩
theorem sc_Present_truth : FnScope ["self", "row"] ["self", "row"] (defScope s_Present_truth) := ⟨rfl, rfl, rfl, by decide +kernel, rfl, by decide +kernel, by decide +kernel⟩
theorem sc_HasBit_truth : FnScope ["self", "row"] ["self", "row"] (defScope s_HasBit_truth) := ⟨rfl, rfl, rfl, by decide +kernel, rfl, by decide +kernel, by decide +kernel⟩
theorem sc_Surely_truth : FnScope ["self", "row"] ["self", "row"] (defScope s_Surely_truth) := ⟨rfl, rfl, rfl, by decide +kernel, rfl, by decide +kernel, by decide +kernel⟩
theorem sc_rank_of : FnScope ["truth"] ["truth"] (defScope s_rank_of) := ⟨rfl, rfl, rfl, by decide +kernel, rfl, by decide +kernel, by decide +kernel⟩
theorem sc_opposite_truth : FnScope ["truth"] ["truth"] (defScope s_opposite_truth) := ⟨rfl, rfl, rfl, by decide +kernel, rfl, by decide +kernel, by decide +kernel⟩
theorem sc_Opposite_truth : FnScope ["self", "row"] ["self", "row"] (defScope s_Opposite_truth) := ⟨rfl, rfl, rfl, by decide +kernel, rfl, by decide +kernel, by decide +kernel⟩
theorem sc_either_truths : FnScope ["one", "other"] ["one", "other"] (defScope s_either_truths) := ⟨rfl, rfl, rfl, by decide +kernel, rfl, by decide +kernel, by decide +kernel⟩
theorem sc_Either_truth : FnScope ["self", "row"] ["self", "row"] (defScope s_Either_truth) := ⟨rfl, rfl, rfl, by decide +kernel, rfl, by decide +kernel, by decide +kernel⟩
theorem sc_both_truths : FnScope ["one", "other"] ["one", "other"] (defScope s_both_truths) := ⟨rfl, rfl, rfl, by decide +kernel, rfl, by decide +kernel, by decide +kernel⟩
theorem sc_Both_truth : FnScope ["self", "row"] ["self", "row"] (defScope s_Both_truth) := ⟨rfl, rfl, rfl, by decide +kernel, rfl, by decide +kernel, by decide +kernel⟩
theorem sc__law_same : FnScope ["_law_answer", "_law_due"] ["_law_answer", "_law_due"] (defScope s__law_same) := ⟨rfl, rfl, rfl, by decide +kernel, rfl, by decide +kernel, by decide +kernel⟩
theorem sc_law : FnScope ["_law_script", "_law_state", "_law_columns", "_law_name", "_law_recipe_here", "_law_question_here", "_law_asked", "_law_k", "_law_row", "_law_column", "_law_given"] ["_law_script"] (defScope s_law) := ⟨rfl, rfl, rfl, by decide +kernel, rfl, by decide +kernel, by decide +kernel⟩
structure T0 (P : Program) (K : Frag) (mg : Str → Option Value) : Prop where
  n_abs : mg "abs" = none
  n_dict : mg "dict" = none
  n_int : mg "int" = none
  n_len : mg "len" = none
  n_max : mg "max" = none
  n_min : mg "min" = none
  n_range : mg "range" = none
  n_sorted : mg "sorted" = none
  n_sum : mg "sum" = none
  n_super : mg "super" = none
  n_tuple : mg "tuple" = none
  g_AtMost : mg "AtMost" = some (.ref (He.ga K "AtMost"))
  g_Both : mg "Both" = some (.ref (He.ga K "Both"))
  g_Either : mg "Either" = some (.ref (He.ga K "Either"))
  g_Form : mg "Form" = some (.ref (He.ga K "Form"))
  g_HasBit : mg "HasBit" = some (.ref (He.ga K "HasBit"))
  g_Opposite : mg "Opposite" = some (.ref (He.ga K "Opposite"))
  g_Present : mg "Present" = some (.ref (He.ga K "Present"))
  g_RANKED : mg "RANKED" = some (.ref (He.ga K "RANKED"))
  g_Surely : mg "Surely" = some (.ref (He.ga K "Surely"))
  g__law_draw : mg "_law_draw" = some (.ref (He.ga K "_law_draw"))
  g__law_leaf : mg "_law_leaf" = some (.ref (He.ga K "_law_leaf"))
  g__law_leaf_truth : mg "_law_leaf_truth" = some (.ref (He.ga K "_law_leaf_truth"))
  g__law_names : mg "_law_names" = some (.ref (He.ga K "_law_names"))
  g__law_number : mg "_law_number" = some (.ref (He.ga K "_law_number"))
  g__law_question : mg "_law_question" = some (.ref (He.ga K "_law_question"))
  g__law_recipe : mg "_law_recipe" = some (.ref (He.ga K "_law_recipe"))
  g__law_same : mg "_law_same" = some (.ref (He.ga K "_law_same"))
  g__law_truth : mg "_law_truth" = some (.ref (He.ga K "_law_truth"))
  g__law_value : mg "_law_value" = some (.ref (He.ga K "_law_value"))
  g__law_wide : mg "_law_wide" = some (.ref (He.ga K "_law_wide"))
  g_both_truths : mg "both_truths" = some (.ref (He.ga K "both_truths"))
  g_either_truths : mg "either_truths" = some (.ref (He.ga K "either_truths"))
  g_law : mg "law" = some (.ref (He.ga K "law"))
  g_opposite_truth : mg "opposite_truth" = some (.ref (He.ga K "opposite_truth"))
  g_rank_of : mg "rank_of" = some (.ref (He.ga K "rank_of"))
  F__law_draw : ∃ fd, FunD K "_law_draw" "_law_draw" (defArgs s__law_draw) (defBody s__law_draw) (defScope s__law_draw) [] [] (He.fAd K ("_law_draw", none)) fd
  k__law_draw : PySem.W.keepIn K (.ref (He.fAd K ("_law_draw", none))) = true
  F__law_names : ∃ fd, FunD K "_law_names" "_law_names" (defArgs s__law_names) (defBody s__law_names) (defScope s__law_names) [] [] (He.fAd K ("_law_names", none)) fd
  k__law_names : PySem.W.keepIn K (.ref (He.fAd K ("_law_names", none))) = true
  F__law_wide : ∃ fd, FunD K "_law_wide" "_law_wide" (defArgs s__law_wide) (defBody s__law_wide) (defScope s__law_wide) [] [] (He.fAd K ("_law_wide", none)) fd
  k__law_wide : PySem.W.keepIn K (.ref (He.fAd K ("_law_wide", none))) = true
  F__law_number : ∃ fd, FunD K "_law_number" "_law_number" (defArgs s__law_number) (defBody s__law_number) (defScope s__law_number) [] [] (He.fAd K ("_law_number", none)) fd
  k__law_number : PySem.W.keepIn K (.ref (He.fAd K ("_law_number", none))) = true
  F__law_leaf : ∃ fd, FunD K "_law_leaf" "_law_leaf" (defArgs s__law_leaf) (defBody s__law_leaf) (defScope s__law_leaf) [] [] (He.fAd K ("_law_leaf", none)) fd
  k__law_leaf : PySem.W.keepIn K (.ref (He.fAd K ("_law_leaf", none))) = true
  F__law_recipe : ∃ fd, FunD K "_law_recipe" "_law_recipe" (defArgs s__law_recipe) (defBody s__law_recipe) (defScope s__law_recipe) [] [] (He.fAd K ("_law_recipe", none)) fd
  k__law_recipe : PySem.W.keepIn K (.ref (He.fAd K ("_law_recipe", none))) = true
  F_Questiondd_initdd : ∃ fd, FunD K "__init__" "Question.__init__" (defArgs s_Questiondd_initdd) (defBody s_Questiondd_initdd) (defScope s_Questiondd_initdd) [] [] (He.fAd K ("Question", some "__init__")) fd
  k_Questiondd_initdd : PySem.W.keepIn K (.ref (He.fAd K ("Question", some "__init__"))) = true
  F_Questiondd_anddd : ∃ fd, FunD K "__and__" "Question.__and__" (defArgs s_Questiondd_anddd) (defBody s_Questiondd_anddd) (defScope s_Questiondd_anddd) [] [] (He.fAd K ("Question", some "__and__")) fd
  k_Questiondd_anddd : PySem.W.keepIn K (.ref (He.fAd K ("Question", some "__and__"))) = true
  F_Questiondd_ordd : ∃ fd, FunD K "__or__" "Question.__or__" (defArgs s_Questiondd_ordd) (defBody s_Questiondd_ordd) (defScope s_Questiondd_ordd) [] [] (He.fAd K ("Question", some "__or__")) fd
  k_Questiondd_ordd : PySem.W.keepIn K (.ref (He.fAd K ("Question", some "__or__"))) = true
  F_Questiondd_invertdd : ∃ fd, FunD K "__invert__" "Question.__invert__" (defArgs s_Questiondd_invertdd) (defBody s_Questiondd_invertdd) (defScope s_Questiondd_invertdd) [] [] (He.fAd K ("Question", some "__invert__")) fd
  k_Questiondd_invertdd : PySem.W.keepIn K (.ref (He.fAd K ("Question", some "__invert__"))) = true
  F_Question_surely : ∃ fd, FunD K "surely" "Question.surely" (defArgs s_Question_surely) (defBody s_Question_surely) (defScope s_Question_surely) [] [] (He.fAd K ("Question", some "surely")) fd
  k_Question_surely : PySem.W.keepIn K (.ref (He.fAd K ("Question", some "surely"))) = true
  F_Formdd_initdd : ∃ fd, FunD K "__init__" "Form.__init__" (defArgs s_Formdd_initdd) (defBody s_Formdd_initdd) (defScope s_Formdd_initdd) [V.int 0] [] (He.fAd K ("Form", some "__init__")) fd
  k_Formdd_initdd : PySem.W.keepIn K (.ref (He.fAd K ("Form", some "__init__"))) = true
  F__law_question : ∃ fd, FunD K "_law_question" "_law_question" (defArgs s__law_question) (defBody s__law_question) (defScope s__law_question) [] [] (He.fAd K ("_law_question", none)) fd
  k__law_question : PySem.W.keepIn K (.ref (He.fAd K ("_law_question", none))) = true
  F__law_value : ∃ fd, FunD K "_law_value" "_law_value" (defArgs s__law_value) (defBody s__law_value) (defScope s__law_value) [] [] (He.fAd K ("_law_value", none)) fd
  k__law_value : PySem.W.keepIn K (.ref (He.fAd K ("_law_value", none))) = true
  F__law_leaf_truth : ∃ fd, FunD K "_law_leaf_truth" "_law_leaf_truth" (defArgs s__law_leaf_truth) (defBody s__law_leaf_truth) (defScope s__law_leaf_truth) [] [] (He.fAd K ("_law_leaf_truth", none)) fd
  k__law_leaf_truth : PySem.W.keepIn K (.ref (He.fAd K ("_law_leaf_truth", none))) = true
  F__law_truth : ∃ fd, FunD K "_law_truth" "_law_truth" (defArgs s__law_truth) (defBody s__law_truth) (defScope s__law_truth) [] [] (He.fAd K ("_law_truth", none)) fd
  k__law_truth : PySem.W.keepIn K (.ref (He.fAd K ("_law_truth", none))) = true
  F_Form_value : ∃ fd, FunD K "value" "Form.value" (defArgs s_Form_value) (defBody s_Form_value) (defScope s_Form_value) [] [] (He.fAd K ("Form", some "value")) fd
  k_Form_value : PySem.W.keepIn K (.ref (He.fAd K ("Form", some "value"))) = true
  F_AtMost_truth : ∃ fd, FunD K "truth" "AtMost.truth" (defArgs s_AtMost_truth) (defBody s_AtMost_truth) (defScope s_AtMost_truth) [] [] (He.fAd K ("AtMost", some "truth")) fd
  k_AtMost_truth : PySem.W.keepIn K (.ref (He.fAd K ("AtMost", some "truth"))) = true
  F_Present_truth : ∃ fd, FunD K "truth" "Present.truth" (defArgs s_Present_truth) (defBody s_Present_truth) (defScope s_Present_truth) [] [] (He.fAd K ("Present", some "truth")) fd
  k_Present_truth : PySem.W.keepIn K (.ref (He.fAd K ("Present", some "truth"))) = true
  F_HasBit_truth : ∃ fd, FunD K "truth" "HasBit.truth" (defArgs s_HasBit_truth) (defBody s_HasBit_truth) (defScope s_HasBit_truth) [] [] (He.fAd K ("HasBit", some "truth")) fd
  k_HasBit_truth : PySem.W.keepIn K (.ref (He.fAd K ("HasBit", some "truth"))) = true
  F_Surely_truth : ∃ fd, FunD K "truth" "Surely.truth" (defArgs s_Surely_truth) (defBody s_Surely_truth) (defScope s_Surely_truth) [] [] (He.fAd K ("Surely", some "truth")) fd
  k_Surely_truth : PySem.W.keepIn K (.ref (He.fAd K ("Surely", some "truth"))) = true
  F_rank_of : ∃ fd, FunD K "rank_of" "rank_of" (defArgs s_rank_of) (defBody s_rank_of) (defScope s_rank_of) [] [] (He.fAd K ("rank_of", none)) fd
  k_rank_of : PySem.W.keepIn K (.ref (He.fAd K ("rank_of", none))) = true
  F_opposite_truth : ∃ fd, FunD K "opposite_truth" "opposite_truth" (defArgs s_opposite_truth) (defBody s_opposite_truth) (defScope s_opposite_truth) [] [] (He.fAd K ("opposite_truth", none)) fd
  k_opposite_truth : PySem.W.keepIn K (.ref (He.fAd K ("opposite_truth", none))) = true
  F_Opposite_truth : ∃ fd, FunD K "truth" "Opposite.truth" (defArgs s_Opposite_truth) (defBody s_Opposite_truth) (defScope s_Opposite_truth) [] [] (He.fAd K ("Opposite", some "truth")) fd
  k_Opposite_truth : PySem.W.keepIn K (.ref (He.fAd K ("Opposite", some "truth"))) = true
  F_either_truths : ∃ fd, FunD K "either_truths" "either_truths" (defArgs s_either_truths) (defBody s_either_truths) (defScope s_either_truths) [] [] (He.fAd K ("either_truths", none)) fd
  k_either_truths : PySem.W.keepIn K (.ref (He.fAd K ("either_truths", none))) = true
  F_Either_truth : ∃ fd, FunD K "truth" "Either.truth" (defArgs s_Either_truth) (defBody s_Either_truth) (defScope s_Either_truth) [] [] (He.fAd K ("Either", some "truth")) fd
  k_Either_truth : PySem.W.keepIn K (.ref (He.fAd K ("Either", some "truth"))) = true
  F_both_truths : ∃ fd, FunD K "both_truths" "both_truths" (defArgs s_both_truths) (defBody s_both_truths) (defScope s_both_truths) [] [] (He.fAd K ("both_truths", none)) fd
  k_both_truths : PySem.W.keepIn K (.ref (He.fAd K ("both_truths", none))) = true
  F_Both_truth : ∃ fd, FunD K "truth" "Both.truth" (defArgs s_Both_truth) (defBody s_Both_truth) (defScope s_Both_truth) [] [] (He.fAd K ("Both", some "truth")) fd
  k_Both_truth : PySem.W.keepIn K (.ref (He.fAd K ("Both", some "truth"))) = true
  F__law_same : ∃ fd, FunD K "_law_same" "_law_same" (defArgs s__law_same) (defBody s__law_same) (defScope s__law_same) [] [] (He.fAd K ("_law_same", none)) fd
  k__law_same : PySem.W.keepIn K (.ref (He.fAd K ("_law_same", none))) = true
  F_law : ∃ fd, FunD K "law" "law" (defArgs s_law) (defBody s_law) (defScope s_law) [] [] (He.fAd K ("law", none)) fd
  k_law : PySem.W.keepIn K (.ref (He.fAd K ("law", none))) = true
  C_Form : CF K "Form" ["offset", "terms"]
  D_AtMost : DF K "AtMost" ["Question"] ["parts", "terms", "bound"]
  D_Both : DF K "Both" ["Question"] ["parts", "one", "other"]
  D_Either : DF K "Either" ["Question"] ["parts", "one", "other"]
  D_HasBit : DF K "HasBit" ["Question"] ["parts", "name", "place"]
  D_Opposite : DF K "Opposite" ["Question"] ["parts", "part"]
  D_Present : DF K "Present" ["Question"] ["parts", "name"]
  D_Surely : DF K "Surely" ["Question"] ["parts", "part"]
  K_AtMost : Mk K (He.ga K "AtMost") (He.fAd K ("AtMost", some "__init__"))
  K_Both : Mk K (He.ga K "Both") (He.fAd K ("Both", some "__init__"))
  K_Either : Mk K (He.ga K "Either") (He.fAd K ("Either", some "__init__"))
  K_Form : Mk K (He.ga K "Form") (He.fAd K ("Form", some "__init__"))
  K_HasBit : Mk K (He.ga K "HasBit") (He.fAd K ("HasBit", some "__init__"))
  K_Opposite : Mk K (He.ga K "Opposite") (He.fAd K ("Opposite", some "__init__"))
  K_Present : Mk K (He.ga K "Present") (He.fAd K ("Present", some "__init__"))
  K_Surely : Mk K (He.ga K "Surely") (He.fAd K ("Surely", some "__init__"))
  M_AtMost_ddanddd : Meth K (He.ga K "AtMost") "__and__" (He.fAd K ("AtMost", some "__and__"))
  M_AtMost_ddinvertdd : Meth K (He.ga K "AtMost") "__invert__" (He.fAd K ("AtMost", some "__invert__"))
  M_AtMost_ddordd : Meth K (He.ga K "AtMost") "__or__" (He.fAd K ("AtMost", some "__or__"))
  M_AtMost_surely : Meth K (He.ga K "AtMost") "surely" (He.fAd K ("AtMost", some "surely"))
  M_AtMost_truth : Meth K (He.ga K "AtMost") "truth" (He.fAd K ("AtMost", some "truth"))
  M_Both_ddanddd : Meth K (He.ga K "Both") "__and__" (He.fAd K ("Both", some "__and__"))
  M_Both_ddinvertdd : Meth K (He.ga K "Both") "__invert__" (He.fAd K ("Both", some "__invert__"))
  M_Both_ddordd : Meth K (He.ga K "Both") "__or__" (He.fAd K ("Both", some "__or__"))
  M_Both_surely : Meth K (He.ga K "Both") "surely" (He.fAd K ("Both", some "surely"))
  M_Both_truth : Meth K (He.ga K "Both") "truth" (He.fAd K ("Both", some "truth"))
  M_Either_ddanddd : Meth K (He.ga K "Either") "__and__" (He.fAd K ("Either", some "__and__"))
  M_Either_ddinvertdd : Meth K (He.ga K "Either") "__invert__" (He.fAd K ("Either", some "__invert__"))
  M_Either_ddordd : Meth K (He.ga K "Either") "__or__" (He.fAd K ("Either", some "__or__"))
  M_Either_surely : Meth K (He.ga K "Either") "surely" (He.fAd K ("Either", some "surely"))
  M_Either_truth : Meth K (He.ga K "Either") "truth" (He.fAd K ("Either", some "truth"))
  M_Form_value : Meth K (He.ga K "Form") "value" (He.fAd K ("Form", some "value"))
  M_HasBit_ddanddd : Meth K (He.ga K "HasBit") "__and__" (He.fAd K ("HasBit", some "__and__"))
  M_HasBit_ddinvertdd : Meth K (He.ga K "HasBit") "__invert__" (He.fAd K ("HasBit", some "__invert__"))
  M_HasBit_ddordd : Meth K (He.ga K "HasBit") "__or__" (He.fAd K ("HasBit", some "__or__"))
  M_HasBit_surely : Meth K (He.ga K "HasBit") "surely" (He.fAd K ("HasBit", some "surely"))
  M_HasBit_truth : Meth K (He.ga K "HasBit") "truth" (He.fAd K ("HasBit", some "truth"))
  M_Opposite_ddanddd : Meth K (He.ga K "Opposite") "__and__" (He.fAd K ("Opposite", some "__and__"))
  M_Opposite_ddinvertdd : Meth K (He.ga K "Opposite") "__invert__" (He.fAd K ("Opposite", some "__invert__"))
  M_Opposite_ddordd : Meth K (He.ga K "Opposite") "__or__" (He.fAd K ("Opposite", some "__or__"))
  M_Opposite_surely : Meth K (He.ga K "Opposite") "surely" (He.fAd K ("Opposite", some "surely"))
  M_Opposite_truth : Meth K (He.ga K "Opposite") "truth" (He.fAd K ("Opposite", some "truth"))
  M_Present_ddanddd : Meth K (He.ga K "Present") "__and__" (He.fAd K ("Present", some "__and__"))
  M_Present_ddinvertdd : Meth K (He.ga K "Present") "__invert__" (He.fAd K ("Present", some "__invert__"))
  M_Present_ddordd : Meth K (He.ga K "Present") "__or__" (He.fAd K ("Present", some "__or__"))
  M_Present_surely : Meth K (He.ga K "Present") "surely" (He.fAd K ("Present", some "surely"))
  M_Present_truth : Meth K (He.ga K "Present") "truth" (He.fAd K ("Present", some "truth"))
  M_Surely_ddanddd : Meth K (He.ga K "Surely") "__and__" (He.fAd K ("Surely", some "__and__"))
  M_Surely_ddinvertdd : Meth K (He.ga K "Surely") "__invert__" (He.fAd K ("Surely", some "__invert__"))
  M_Surely_ddordd : Meth K (He.ga K "Surely") "__or__" (He.fAd K ("Surely", some "__or__"))
  M_Surely_surely : Meth K (He.ga K "Surely") "surely" (He.fAd K ("Surely", some "surely"))
  M_Surely_truth : Meth K (He.ga K "Surely") "truth" (He.fAd K ("Surely", some "truth"))
  NF_and : NfF K csT "and"
  NF_or : NfF K csT "or"
  Q_AtMost_ddanddd : He.fAd K ("AtMost", some "__and__") = He.fAd K ("Question", some "__and__")
  Q_AtMost_ddinvertdd : He.fAd K ("AtMost", some "__invert__") = He.fAd K ("Question", some "__invert__")
  Q_AtMost_ddordd : He.fAd K ("AtMost", some "__or__") = He.fAd K ("Question", some "__or__")
  Q_AtMost_surely : He.fAd K ("AtMost", some "surely") = He.fAd K ("Question", some "surely")
  Q_Both_ddanddd : He.fAd K ("Both", some "__and__") = He.fAd K ("Question", some "__and__")
  Q_Both_ddinvertdd : He.fAd K ("Both", some "__invert__") = He.fAd K ("Question", some "__invert__")
  Q_Both_ddordd : He.fAd K ("Both", some "__or__") = He.fAd K ("Question", some "__or__")
  Q_Both_surely : He.fAd K ("Both", some "surely") = He.fAd K ("Question", some "surely")
  Q_Either_ddanddd : He.fAd K ("Either", some "__and__") = He.fAd K ("Question", some "__and__")
  Q_Either_ddinvertdd : He.fAd K ("Either", some "__invert__") = He.fAd K ("Question", some "__invert__")
  Q_Either_ddordd : He.fAd K ("Either", some "__or__") = He.fAd K ("Question", some "__or__")
  Q_Either_surely : He.fAd K ("Either", some "surely") = He.fAd K ("Question", some "surely")
  Q_HasBit_ddanddd : He.fAd K ("HasBit", some "__and__") = He.fAd K ("Question", some "__and__")
  Q_HasBit_ddinvertdd : He.fAd K ("HasBit", some "__invert__") = He.fAd K ("Question", some "__invert__")
  Q_HasBit_ddordd : He.fAd K ("HasBit", some "__or__") = He.fAd K ("Question", some "__or__")
  Q_HasBit_surely : He.fAd K ("HasBit", some "surely") = He.fAd K ("Question", some "surely")
  Q_Opposite_ddanddd : He.fAd K ("Opposite", some "__and__") = He.fAd K ("Question", some "__and__")
  Q_Opposite_ddinvertdd : He.fAd K ("Opposite", some "__invert__") = He.fAd K ("Question", some "__invert__")
  Q_Opposite_ddordd : He.fAd K ("Opposite", some "__or__") = He.fAd K ("Question", some "__or__")
  Q_Opposite_surely : He.fAd K ("Opposite", some "surely") = He.fAd K ("Question", some "surely")
  Q_Present_ddanddd : He.fAd K ("Present", some "__and__") = He.fAd K ("Question", some "__and__")
  Q_Present_ddinvertdd : He.fAd K ("Present", some "__invert__") = He.fAd K ("Question", some "__invert__")
  Q_Present_ddordd : He.fAd K ("Present", some "__or__") = He.fAd K ("Question", some "__or__")
  Q_Present_surely : He.fAd K ("Present", some "surely") = He.fAd K ("Question", some "surely")
  Q_Surely_ddanddd : He.fAd K ("Surely", some "__and__") = He.fAd K ("Question", some "__and__")
  Q_Surely_ddinvertdd : He.fAd K ("Surely", some "__invert__") = He.fAd K ("Question", some "__invert__")
  Q_Surely_ddordd : He.fAd K ("Surely", some "__or__") = He.fAd K ("Question", some "__or__")
  Q_Surely_surely : He.fAd K ("Surely", some "surely") = He.fAd K ("Question", some "surely")
  S_AtMostdd_initdd : SupF P K "AtMost" (He.fAd K ("Question", some "__init__")) "__init__" "AtMost.__init__" (defArgs s_AtMostdd_initdd) (defBody s_AtMostdd_initdd) (defScope s_AtMostdd_initdd) (He.fAd K ("AtMost", some "__init__"))
  S_Bothdd_initdd : SupF P K "Both" (He.fAd K ("Question", some "__init__")) "__init__" "Both.__init__" (defArgs s_Bothdd_initdd) (defBody s_Bothdd_initdd) (defScope s_Bothdd_initdd) (He.fAd K ("Both", some "__init__"))
  S_Eitherdd_initdd : SupF P K "Either" (He.fAd K ("Question", some "__init__")) "__init__" "Either.__init__" (defArgs s_Eitherdd_initdd) (defBody s_Eitherdd_initdd) (defScope s_Eitherdd_initdd) (He.fAd K ("Either", some "__init__"))
  S_HasBitdd_initdd : SupF P K "HasBit" (He.fAd K ("Question", some "__init__")) "__init__" "HasBit.__init__" (defArgs s_HasBitdd_initdd) (defBody s_HasBitdd_initdd) (defScope s_HasBitdd_initdd) (He.fAd K ("HasBit", some "__init__"))
  S_Oppositedd_initdd : SupF P K "Opposite" (He.fAd K ("Question", some "__init__")) "__init__" "Opposite.__init__" (defArgs s_Oppositedd_initdd) (defBody s_Oppositedd_initdd) (defScope s_Oppositedd_initdd) (He.fAd K ("Opposite", some "__init__"))
  S_Presentdd_initdd : SupF P K "Present" (He.fAd K ("Question", some "__init__")) "__init__" "Present.__init__" (defArgs s_Presentdd_initdd) (defBody s_Presentdd_initdd) (defScope s_Presentdd_initdd) (He.fAd K ("Present", some "__init__"))
  S_Surelydd_initdd : SupF P K "Surely" (He.fAd K ("Question", some "__init__")) "__init__" "Surely.__init__" (defArgs s_Surelydd_initdd) (defBody s_Surelydd_initdd) (defScope s_Surelydd_initdd) (He.fAd K ("Surely", some "__init__"))
  U_RANKED : TupG K "RANKED" [V.bl false, V.non, V.bl true]
section
variable {P : Program} {w : World} {K : Frag} {mg : Str → Option Value} {base : Heap}
theorem ok__law_draw (T : T0 P K mg) : FR P w K mg base 1 (He.fAd K ("_law_draw", none)) (sp__law_draw K) := by
  obtain ⟨fd, F⟩ := T.F__law_draw
  refine mk_fn F sc__law_draw (fun vs H Q E h => by
    revert h; intro h; (repeat (first | (obtain ⟨rfl, _⟩ := h; exact rfl) | obtain ⟨_, h⟩ := h))) (fun _ _ _ _ _ _ us hl => match us, hl with | [_, _, _], _ => rfl) (t := t__law_draw K) (fun cdv A outer s H E hr => ?_) (fun vs H Q E h => pure__law_draw vs H Q E h)
  exact pss_cons (ps_if (pt_cmp (o_eq hr.units) (pe_ix ix_any (pv 1) (pe_int) (fun _ _ => rfl)) (pe_int) (nomark _)) (pss_cons (ps_set (i := 3) sc__law_draw.nd rfl (Or.inl rfl) (pe_ix ix_any (pv 1) (pe_int) (fun _ _ => rfl)))
    (pss_cons (ps_asg (pe_op o_add (pv 3) (pe_int)) (pg_sub (pv 1) (pe_int) s_list))
    (pss_cons (ps_if (pt_cmp o_ge (pv 3) (pe_cb c_len T.n_len (by decide +kernel) (pa_cons (pv 0) (pa_nil))) (nomark _)) (pss_one (ps_ret (pe_int))) (pss_nil))
    (pss_cons (ps_asg (pe_cb c_abs T.n_abs (by decide +kernel) (pa_cons (pe_ix ix_any (pv 0) (pv 3) (fun _ _ => rfl)) (pa_nil))) (pg_sub (pv 1) (pe_int) s_list))
    (pss_cons (ps_asg (pe_ct c_int T.n_int (by decide +kernel) (pa_cons (pe_cmp o_lt (pe_ix ix_any (pv 0) (pv 3) (fun _ _ => rfl)) (pe_int) (nomark _)) (pa_nil))) (pg_sub (pv 1) (pe_int) s_list))
    (pss_cons (ps_asg (pe_int) (pg_sub (pv 1) (pe_int) s_list))
    (pss_one (ps_if (pt_cmp o_ge (pe_ix ix_any (pv 1) (pe_int) (fun _ _ => rfl)) (pe_op o_pow (pe_int) (pe_int)) (nomark _)) (pss_cons (ps_asg (pe_int) (pg_sub (pv 1) (pe_int) s_list))
    (pss_one (ps_asg (pe_int) (pg_sub (pv 1) (pe_int) s_list)))) (pss_nil))))))))) (pss_nil))
    (pss_stop (pss_cons (ps_asg (pe_op o_sub (pe_ix ix_any (pv 1) (pe_int) (fun _ _ => rfl)) (pe_int)) (pg_sub (pv 1) (pe_int) s_list))
    (pss_stop (pss_cons (ps_set (i := 4) sc__law_draw.nd rfl (Or.inl rfl) (pe_ct c_int T.n_int (by decide +kernel) (pa_cons (pe_ix ix_any (pv 1) (pe_int) (fun _ _ => rfl)) (pa_nil))))
    (pss_stop (pss_cons (ps_if (pt_cmp (o_eq hr.units) (pe_ix ix_any (pv 1) (pe_int) (fun _ _ => rfl)) (pe_int) (nomark _)) (pss_cons (ps_asg (pe_op o_fdiv (pv 4) (pe_int)) (pg_sub (pv 1) (pe_int) s_list))
    (pss_cons (ps_if (pt_cmp (o_eq hr.units) (pe_ix ix_any (pv 1) (pe_int) (fun _ _ => rfl)) (pe_int) (nomark _)) (pss_one (ps_asg (pe_int) (pg_sub (pv 1) (pe_int) s_list))) (pss_nil))
    (pss_cons (ps_set (i := 5) sc__law_draw.nd rfl (Or.inl rfl) (pe_op o_mod (pe_ct c_int T.n_int (by decide +kernel) (pa_cons (pv 4) (pa_nil))) (pe_int)))
    (pss_one (ps_ret (pe_op o_mod (pe_ct c_int T.n_int (by decide +kernel) (pa_cons (pv 5) (pa_nil))) (pv 2))))))) (pss_nil))
    (pss_stop (pss_cons (ps_set (i := 6) sc__law_draw.nd rfl (Or.inl rfl) (pe_op o_mod (pe_ct c_int T.n_int (by decide +kernel) (pa_cons (pe_op o_add (pe_op o_mulA (pv 4) (pe_op o_add (pe_op o_add (pe_int) (pe_op o_mulA (pe_int) (pe_ix ix_any (pv 1) (pe_int) (fun _ _ => rfl)))) (pe_op o_mulA (pe_int) (pe_ix ix_any (pv 1) (pe_int) (fun _ _ => rfl))))) (pe_op o_mulA (pe_int) (pe_ix ix_any (pv 1) (pe_int) (fun _ _ => rfl)))) (pa_nil))) (pe_int)))
    (pss_stop (pss_cons (ps_set (i := 6) sc__law_draw.nd rfl (Or.inl rfl) (pe_op o_mod (pe_ct c_int T.n_int (by decide +kernel) (pa_cons (pe_op o_add (pe_op o_mulA (pv 6) (pv 6)) (pv 4)) (pa_nil))) (pe_int)))
    (pss_stop (pss_cons (ps_set (i := 6) sc__law_draw.nd rfl (Or.inl rfl) (pe_op o_mod (pe_ct c_int T.n_int (by decide +kernel) (pa_cons (pe_op o_mulA (pv 6) (pv 6)) (pa_nil))) (pe_int)))
    (pss_stop (pss_one (ps_ret (pe_op o_mod (pe_ct c_int T.n_int (by decide +kernel) (pa_cons (pv 6) (pa_nil))) (pv 2)))))))))))))))))
theorem ok__law_names (T : T0 P K mg) : FR P w K mg base 2 (He.fAd K ("_law_names", none)) (sp__law_names K) := by
  obtain ⟨fd, F⟩ := T.F__law_names
  have G__law_draw := ok__law_draw (P := P) (w := w) (base := base) T
  refine mk_fn F sc__law_names (fun vs H Q E h => by
    revert h; intro h; (repeat (first | (obtain ⟨rfl, _⟩ := h; exact rfl) | obtain ⟨_, h⟩ := h))) (fun _ _ _ _ _ _ us hl => match us, hl with | [_, _, _], _ => rfl) (t := t__law_names K) (fun cdv A outer s H E hr => ?_) (fun vs H Q E h => pure__law_names vs H Q E h)
  exact pss_cons (ps_set (i := 3) sc__law_names.nd rfl (Or.inl rfl) (pe_str))
    (pss_stop (pss_cons (ps_set (i := 4) sc__law_names.nd rfl (Or.inl rfl) (pe_lst (pa_nil)))
    (pss_stop (pss_cons (ps_for ownD rfl (pi_rng (by rfl) T.n_range (pa_cons (pv 2) (pa_nil))) (pg_name (i := 5) sc__law_names.nd rfl (Or.inl rfl)) (pss_cons (ps_set (i := 6) sc__law_names.nd rfl (Or.inl rfl) (pe_str))
    (pss_stop (pss_cons (ps_for ownD rfl (pi_rng (by rfl) T.n_range (pa_cons (pe_call (G__law_draw) (hr.mono (by decide)) T.g__law_draw T.k__law_draw passD (pa_cons (pv 0) (pa_cons (pv 1) (pa_cons (pe_int) (pa_nil))))) (pa_nil))) (pg_name (i := 7) sc__law_names.nd rfl (Or.inl rfl)) (pss_one (ps_set (i := 6) sc__law_names.nd rfl (Or.inl rfl) (pe_op o_add (pv 6) (pe_ix ix_any (pv 3) (pe_call (G__law_draw) (hr.mono (by decide)) T.g__law_draw T.k__law_draw passD (pa_cons (pv 0) (pa_cons (pv 1) (pa_cons (pe_int) (pa_nil))))) (fun _ _ => rfl))))))
    (pss_stop (pss_cons (ps_set (i := 8) sc__law_names.nd rfl (Or.inl rfl) (pe_call (G__law_draw) (hr.mono (by decide)) T.g__law_draw T.k__law_draw passD (pa_cons (pv 0) (pa_cons (pv 1) (pa_cons (pe_int) (pa_nil))))))
    (pss_stop (pss_cons (ps_set (i := 9) sc__law_names.nd rfl (Or.inl rfl) (pe_str))
    (pss_stop (pss_cons (ps_for ownD rfl (pi_rng (by rfl) T.n_range (pa_cons (pe_int) (pa_nil))) (pg_name (i := 7) sc__law_names.nd rfl (Or.inl rfl)) (pss_cons (ps_set (i := 10) sc__law_names.nd rfl (Or.inl rfl) (pe_op o_add (pv 6) (pe_ix ix_any (pv 3) (pe_op o_mod (pe_ct c_int T.n_int (by decide +kernel) (pa_cons (pe_op o_add (pv 8) (pv 7)) (pa_nil))) (pe_int)) (fun _ _ => rfl))))
    (pss_stop (pss_one (ps_if (PW.pt (pw_and (pt_cmp (o_eq hr.units) (pv 9) (pe_str) (nomark _)) (pw_and1 (pt_cmp o_nin (pv 10) (pv 4) (by rfl))))) (pss_one (ps_set (i := 9) sc__law_names.nd rfl (Or.inl rfl) (pv 10))) (pss_nil))))))
    (pss_stop (pss_one (ps_expr (pe_ml PySem.F.slot_list_append PySem.F.type_list_append m_app (pv 4) (pa_cons (pv 9) (pa_nil))))))))))))))))
    (pss_stop (pss_one (ps_ret (pv 4))))))))
theorem ok__law_wide (T : T0 P K mg) : FR P w K mg base 2 (He.fAd K ("_law_wide", none)) (sp__law_wide K) := by
  obtain ⟨fd, F⟩ := T.F__law_wide
  have G__law_draw := ok__law_draw (P := P) (w := w) (base := base) T
  refine mk_fn F sc__law_wide (fun vs H Q E h => by
    revert h; intro h; (repeat (first | (obtain ⟨rfl, _⟩ := h; exact rfl) | obtain ⟨_, h⟩ := h))) (fun _ _ _ _ _ _ us hl => match us, hl with | [_, _, _], _ => rfl) (t := t__law_wide K) (fun cdv A outer s H E hr => ?_) (fun vs H Q E h => pure__law_wide vs H Q E h)
  exact pss_cons (ps_set (i := 3) sc__law_wide.nd rfl (Or.inl rfl) (pe_int))
    (pss_stop (pss_cons (ps_for ownD rfl (pi_rng (by rfl) T.n_range (pa_cons (pe_int) (pa_nil))) (pg_name (i := 4) sc__law_wide.nd rfl (Or.inl rfl)) (pss_one (ps_set (i := 3) sc__law_wide.nd rfl (Or.inl rfl) (pe_op o_add (pe_op o_mulA (pv 3) (pe_int)) (pe_call (G__law_draw) (hr.mono (by decide)) T.g__law_draw T.k__law_draw passD (pa_cons (pv 0) (pa_cons (pv 1) (pa_cons (pe_int) (pa_nil)))))))))
    (pss_stop (pss_one (ps_ret (pe_op o_mod (pe_ct c_int T.n_int (by decide +kernel) (pa_cons (pv 3) (pa_nil))) (pv 2)))))))
theorem ok__law_number (T : T0 P K mg) : FR P w K mg base 3 (He.fAd K ("_law_number", none)) (sp__law_number K) := by
  obtain ⟨fd, F⟩ := T.F__law_number
  have G__law_draw := ok__law_draw (P := P) (w := w) (base := base) T
  have G__law_wide := ok__law_wide (P := P) (w := w) (base := base) T
  refine mk_fn F sc__law_number (fun vs H Q E h => by
    revert h; intro h; (repeat (first | (obtain ⟨rfl, _⟩ := h; exact rfl) | obtain ⟨_, h⟩ := h))) (fun _ _ _ _ _ _ us hl => match us, hl with | [_, _, _], _ => rfl) (t := t__law_number K) (fun cdv A outer s H E hr => ?_) (fun vs H Q E h => pure__law_number vs H Q E h)
  exact pss_cons (ps_set (i := 3) sc__law_number.nd rfl (Or.inl rfl) (pe_op o_shl (pe_int) (pe_op o_sub (pv 2) (pe_int))))
    (pss_stop (pss_cons (ps_set (i := 4) sc__law_number.nd rfl (Or.inl rfl) (pe_call (G__law_draw) (hr.mono (by decide)) T.g__law_draw T.k__law_draw passD (pa_cons (pv 0) (pa_cons (pv 1) (pa_cons (pe_int) (pa_nil))))))
    (pss_stop (pss_cons (ps_set (i := 5) sc__law_number.nd rfl (Or.inl rfl) (pe_call (G__law_draw) (hr.mono (by decide)) T.g__law_draw T.k__law_draw passD (pa_cons (pv 0) (pa_cons (pv 1) (pa_cons (pe_int) (pa_nil))))))
    (pss_stop (pss_cons (ps_if (pt_cmp (o_eq hr.units) (pv 4) (pe_int) (nomark _)) (pss_one (ps_set (i := 5) sc__law_number.nd rfl (Or.inl rfl) (pe_op o_sub (pe_un u_neg (pe_int)) (pv 5)))) (pss_nil))
    (pss_stop (pss_cons (ps_if (pt_cmp (o_eq hr.units) (pv 4) (pe_int) (nomark _)) (pss_cons (ps_set (i := 6) sc__law_number.nd rfl (Or.inl rfl) (pe_op o_shl (pe_int) (pe_call (G__law_draw) (hr.mono (by decide)) T.g__law_draw T.k__law_draw passD (pa_cons (pv 0) (pa_cons (pv 1) (pa_cons (pv 2) (pa_nil)))))))
    (pss_one (ps_set (i := 5) sc__law_number.nd rfl (Or.inl rfl) (pe_ix ix_any (pe_lst (pa_cons (pe_op o_sub (pv 6) (pe_int)) (pa_cons (pv 6) (pa_cons (pe_un u_neg (pv 6)) (pa_cons (pe_op o_sub (pe_un u_neg (pe_int)) (pv 6)) (pa_nil)))))) (pv 5) (fun _ _ => rfl))))) (pss_nil))
    (pss_stop (pss_cons (ps_if (pt_cmp o_gt (pv 4) (pe_int) (nomark _)) (pss_one (ps_set (i := 5) sc__law_number.nd rfl (Or.inl rfl) (pe_call (G__law_wide) (hr.mono (by decide)) T.g__law_wide T.k__law_wide passD (pa_cons (pv 0) (pa_cons (pv 1) (pa_cons (pe_op o_mulA (pe_int) (pv 3)) (pa_nil))))))) (pss_nil))
    (pss_stop (pss_one (ps_ret (pe_op o_sub (pe_op o_mod (pe_ct c_int T.n_int (by decide +kernel) (pa_cons (pe_op o_add (pv 5) (pv 3)) (pa_nil))) (pe_op o_mulA (pe_int) (pv 3))) (pv 3)))))))))))))))
theorem ok__law_leaf (T : T0 P K mg) : FR P w K mg base 4 (He.fAd K ("_law_leaf", none)) (sp__law_leaf K) := by
  obtain ⟨fd, F⟩ := T.F__law_leaf
  have G__law_draw := ok__law_draw (P := P) (w := w) (base := base) T
  have G__law_number := ok__law_number (P := P) (w := w) (base := base) T
  refine mk_fn F sc__law_leaf (fun vs H Q E h => by
    revert h; intro h; (repeat (first | (obtain ⟨rfl, _⟩ := h; exact rfl) | obtain ⟨_, h⟩ := h))) (fun _ _ _ _ _ _ us hl => match us, hl with | [_, _, _], _ => rfl) (t := t__law_leaf K) (fun cdv A outer s H E hr => ?_) (fun vs H Q E h => pure__law_leaf vs H Q E h)
  exact pss_cons (ps_set (i := 3) sc__law_leaf.nd rfl (Or.inl rfl) (pe_call (G__law_draw) (hr.mono (by decide)) T.g__law_draw T.k__law_draw passD (pa_cons (pv 0) (pa_cons (pv 1) (pa_cons (pe_int) (pa_nil))))))
    (pss_stop (pss_cons (ps_if (PW.pt (pw_and (pt_cmp o_gt (pv 3) (pe_int) (nomark _)) (pw_and1 (pt_cmp o_gt (pe_cb c_len T.n_len (by decide +kernel) (pa_cons (pv 2) (pa_nil))) (pe_int) (nomark _))))) (pss_cons (ps_set (i := 4) sc__law_leaf.nd rfl (Or.inl rfl) (pe_ix ix_any (pv 2) (pe_call (G__law_draw) (hr.mono (by decide)) T.g__law_draw T.k__law_draw passD (pa_cons (pv 0) (pa_cons (pv 1) (pa_cons (pe_cb c_len T.n_len (by decide +kernel) (pa_cons (pv 2) (pa_nil))) (pa_nil))))) (fun _ _ => rfl)))
    (pss_cons (ps_if (pt_cmp (o_eq hr.units) (pv 3) (pe_int) (nomark _)) (pss_one (ps_ret (pe_tup (pa_cons (pe_str) (pa_cons (pe_ix ix_any (pv 4) (pe_int) (fun _ _ => rfl)) (pa_nil)))))) (pss_nil))
    (pss_one (ps_ret (pe_tup (pa_cons (pe_str) (pa_cons (pe_ix ix_any (pv 4) (pe_int) (fun _ _ => rfl)) (pa_cons (pe_call (G__law_draw) (hr.mono (by decide)) T.g__law_draw T.k__law_draw passD (pa_cons (pv 0) (pa_cons (pv 1) (pa_cons (pe_op o_add (pe_ix ix_any (pv 4) (pe_int) (fun _ _ => rfl)) (pe_int)) (pa_nil))))) (pa_nil))))))))) (pss_nil))
    (pss_stop (pss_cons (ps_set (i := 5) sc__law_leaf.nd rfl (Or.inl rfl) (pe_lst (pa_nil)))
    (pss_stop (pss_cons (ps_set (i := 6) sc__law_leaf.nd rfl (Or.inl rfl) (pe_ix ix_any (pe_lst (pa_cons (pe_int) (pa_cons (pe_un u_neg (pe_int)) (pa_cons (pe_int) (pa_nil))))) (pe_call (G__law_draw) (hr.mono (by decide)) T.g__law_draw T.k__law_draw passD (pa_cons (pv 0) (pa_cons (pv 1) (pa_cons (pe_int) (pa_nil))))) (fun _ _ => rfl)))
    (pss_stop (pss_cons (ps_for ownD rfl (pi_seq (pv 2)) (pg_name (i := 4) sc__law_leaf.nd rfl (Or.inl rfl)) (pss_one (ps_if (pt_cmp o_lt (pe_call (G__law_draw) (hr.mono (by decide)) T.g__law_draw T.k__law_draw passD (pa_cons (pv 0) (pa_cons (pv 1) (pa_cons (pe_int) (pa_nil))))) (pe_int) (nomark _)) (pss_cons (ps_set (i := 7) sc__law_leaf.nd rfl (Or.inl rfl) (pe_ix ix_any (pe_lst (pa_cons (pe_int) (pa_cons (pe_un u_neg (pe_int)) (pa_cons (pe_int) (pa_cons (pe_int) (pa_cons (pe_un u_neg (pe_int)) (pa_cons (pe_int) (pa_cons (pe_int) (pa_cons (pe_un u_neg (pe_int)) (pa_cons (pe_un u_neg (pe_int)) (pa_nil))))))))))) (pe_call (G__law_draw) (hr.mono (by decide)) T.g__law_draw T.k__law_draw passD (pa_cons (pv 0) (pa_cons (pv 1) (pa_cons (pe_int) (pa_nil))))) (fun _ _ => rfl)))
    (pss_cons (ps_expr (pe_ml PySem.F.slot_list_append PySem.F.type_list_append m_app (pv 5) (pa_cons (pe_tup (pa_cons (pe_ix ix_any (pv 4) (pe_int) (fun _ _ => rfl)) (pa_cons (pv 7) (pa_nil)))) (pa_nil))))
    (pss_one (ps_set (i := 6) sc__law_leaf.nd rfl (Or.inl rfl) (pe_op o_add (pv 6) (pe_op o_mulA (pv 7) (pe_call (G__law_number) (hr.mono (by decide)) T.g__law_number T.k__law_number passD (pa_cons (pv 0) (pa_cons (pv 1) (pa_cons (pe_ix ix_any (pv 4) (pe_int) (fun _ _ => rfl)) (pa_nil))))))))))) (pss_nil))))
    (pss_stop (pss_one (ps_ret (pe_tup (pa_cons (pe_str) (pa_cons (pv 5) (pa_cons (pv 6) (pa_nil))))))))))))))))
theorem ok__law_recipe (T : T0 P K mg) : FR P w K mg base 5 (He.fAd K ("_law_recipe", none)) (sp__law_recipe K) := by
  obtain ⟨fd, F⟩ := T.F__law_recipe
  have G__law_draw := ok__law_draw (P := P) (w := w) (base := base) T
  have G__law_leaf := ok__law_leaf (P := P) (w := w) (base := base) T
  refine mk_fn F sc__law_recipe (fun vs H Q E h => by
    revert h; intro h; (repeat (first | (obtain ⟨rfl, _⟩ := h; exact rfl) | obtain ⟨_, h⟩ := h))) (fun _ _ _ _ _ _ us hl => match us, hl with | [_, _, _, _], _ => rfl) (t := t__law_recipe K) (fun cdv A outer s H E hr => ?_) (fun vs H Q E h => pure__law_recipe vs H Q E h)
  exact pss_cons (ps_set (i := 4) sc__law_recipe.nd rfl (Or.inl rfl) (pe_lst (pa_nil)))
    (pss_stop (pss_cons (ps_set (i := 5) sc__law_recipe.nd rfl (Or.inl rfl) (pe_lst (pa_nil)))
    (pss_stop (pss_cons (ps_for ownD rfl (pi_rng (by rfl) T.n_range (pa_cons (pe_op o_add (pe_int) (pe_call (G__law_draw) (hr.mono (by decide)) T.g__law_draw T.k__law_draw passD (pa_cons (pv 0) (pa_cons (pv 1) (pa_cons (pv 3) (pa_nil)))))) (pa_nil))) (pg_name (i := 6) sc__law_recipe.nd rfl (Or.inl rfl)) (pss_cons (ps_set (i := 7) sc__law_recipe.nd rfl (Or.inl rfl) (pe_call (G__law_draw) (hr.mono (by decide)) T.g__law_draw T.k__law_draw passD (pa_cons (pv 0) (pa_cons (pv 1) (pa_cons (pe_int) (pa_nil))))))
    (pss_stop (pss_one (ps_if (PW.pt (pw_and (pt_cmp o_gt (pv 7) (pe_int) (nomark _)) (pw_and1 (pt_cmp o_gt (pe_cb c_len T.n_len (by decide +kernel) (pa_cons (pv 5) (pa_nil))) (pe_int) (nomark _))))) (pss_cons (ps_expr (pe_ml PySem.F.slot_list_append PySem.F.type_list_append m_app (pv 4) (pa_cons (pe_ix ix_any (pe_lst (pa_cons (pe_tup (pa_cons (pe_str) (pa_nil))) (pa_cons (pe_tup (pa_cons (pe_str) (pa_nil))) (pa_nil)))) (pe_op o_sub (pv 7) (pe_int)) (fun _ _ => rfl)) (pa_nil))))
    (pss_cons (ps_set (i := 8) sc__law_recipe.nd rfl (Or.inl rfl) (pe_ml0 PySem.F.slot_list_pop PySem.F.type_list_pop m_pop (pv 5)))
    (pss_one (ps_asg (pe_op o_add (pe_op o_add (pe_ix ix_any (pv 5) (pe_un u_neg (pe_int)) (fun _ _ => rfl)) (pv 8)) (pe_int)) (pg_sub (pv 5) (pe_un u_neg (pe_int)) s_list))))) (pss_one (ps_if (PW.pt (pw_and (pt_cmp (o_eq hr.units) (pv 7) (pe_int) (nomark _)) (pw_and (pt_cmp o_gt (pe_cb c_len T.n_len (by decide +kernel) (pa_cons (pv 5) (pa_nil))) (pe_int) (nomark _)) (pw_and1 (pt_cmp o_lt (pe_cb (c_sum rfl) T.n_sum (by decide +kernel) (pa_cons (pv 5) (pa_nil))) (pe_int) (nomark _)))))) (pss_cons (ps_expr (pe_ml PySem.F.slot_list_append PySem.F.type_list_append m_app (pv 4) (pa_cons (pe_tup (pa_cons (pe_str) (pa_nil))) (pa_nil))))
    (pss_one (ps_expr (pe_ml PySem.F.slot_list_append PySem.F.type_list_append m_app (pv 5) (pa_cons (pe_ix ix_any (pv 5) (pe_un u_neg (pe_int)) (fun _ _ => rfl)) (pa_nil)))))) (pss_one (ps_if (PW.pt (pw_and (pt_cmp o_gt (pv 7) (pe_int) (nomark _)) (pw_and1 (pt_cmp o_gt (pe_cb c_len T.n_len (by decide +kernel) (pa_cons (pv 5) (pa_nil))) (pe_int) (nomark _))))) (pss_cons (ps_expr (pe_ml PySem.F.slot_list_append PySem.F.type_list_append m_app (pv 4) (pa_cons (pe_ix ix_any (pe_lst (pa_cons (pe_tup (pa_cons (pe_str) (pa_nil))) (pa_cons (pe_tup (pa_cons (pe_str) (pa_nil))) (pa_nil)))) (pe_op o_mod (pe_ct c_int T.n_int (by decide +kernel) (pa_cons (pv 7) (pa_nil))) (pe_int)) (fun _ _ => rfl)) (pa_nil))))
    (pss_one (ps_asg (pe_op o_add (pe_ix ix_any (pv 5) (pe_un u_neg (pe_int)) (fun _ _ => rfl)) (pe_int)) (pg_sub (pv 5) (pe_un u_neg (pe_int)) s_list)))) (pss_cons (ps_expr (pe_ml PySem.F.slot_list_append PySem.F.type_list_append m_app (pv 4) (pa_cons (pe_call (G__law_leaf) (hr.mono (by decide)) T.g__law_leaf T.k__law_leaf passD (pa_cons (pv 0) (pa_cons (pv 1) (pa_cons (pv 2) (pa_nil))))) (pa_nil))))
    (pss_one (ps_expr (pe_ml PySem.F.slot_list_append PySem.F.type_list_append m_app (pv 5) (pa_cons (pe_int) (pa_nil)))))))))))))))
    (pss_stop (pss_cons (ps_for ownD rfl (pi_rng (by rfl) T.n_range (pa_cons (pe_op o_sub (pe_cb c_len T.n_len (by decide +kernel) (pa_cons (pv 5) (pa_nil))) (pe_int)) (pa_nil))) (pg_name (i := 6) sc__law_recipe.nd rfl (Or.inl rfl)) (pss_one (ps_expr (pe_ml PySem.F.slot_list_append PySem.F.type_list_append m_app (pv 4) (pa_cons (pe_ix ix_any (pe_lst (pa_cons (pe_tup (pa_cons (pe_str) (pa_nil))) (pa_cons (pe_tup (pa_cons (pe_str) (pa_nil))) (pa_nil)))) (pe_call (G__law_draw) (hr.mono (by decide)) T.g__law_draw T.k__law_draw passD (pa_cons (pv 0) (pa_cons (pv 1) (pa_cons (pe_int) (pa_nil))))) (fun _ _ => rfl)) (pa_nil))))))
    (pss_stop (pss_one (ps_ret (pv 4))))))))))
theorem ok_Questiondd_initdd (T : T0 P K mg) : FR P w K mg base 1 (He.fAd K ("Question", some "__init__")) (sp_Questiondd_initdd K) := by
  obtain ⟨fd, F⟩ := T.F_Questiondd_initdd
  refine mk_fn F sc_Questiondd_initdd (fun vs H Q E h => by
    revert h; intro h; (repeat (first | (obtain ⟨rfl, _⟩ := h; exact rfl) | obtain ⟨_, h⟩ := h))) (fun _ _ _ _ _ _ us hl => match us, hl with | [_, _], _ => rfl) (t := t_Questiondd_initdd K) (fun cdv A outer s H E hr => ?_) (fun vs H Q E h => pure_Questiondd_initdd vs H Q E h)
  exact pss_one (ps_sto (pv 1) (pv 0))
theorem ok_Bothdd_initdd (T : T0 P K mg) : FR P w K mg base 3 (He.fAd K ("Both", some "__init__")) (sp_Bothdd_initdd K) := by
  have G_Questiondd_initdd := ok_Questiondd_initdd (P := P) (w := w) (base := base) T
  refine mk_fnS (ta := fun E => tCons (dTup K (tCons (dVar 1) (tCons (dVar 2) (tNil)))) (tNil)) (tr := fun E => stop (t_Bothdd_initdd_r K E)) T.S_Bothdd_initdd T.n_super sc_Bothdd_initdd (fun vs H Q E h => by
    revert h; intro h; (repeat (first | (obtain ⟨rfl, _⟩ := h; exact rfl) | obtain ⟨_, h⟩ := h))) (fun _ _ _ _ _ _ _ us hl => match us, hl with | [_, _, _], _ => rfl) (G_Questiondd_initdd.mono (by decide)) rfl ⟨_, rfl, rfl⟩ rfl (by decide +kernel) (fun _ => rfl) (fun _ => rfl) (fun _ => rfl) (fun _ => rfl) (fun cda cc A outer s H E hr => ?_) (fun vs H Q E h => pure_Bothdd_initdd vs H Q E h)
  exact ⟨pa_cons (pe_tup (pa_cons (pv 1) (pa_cons (pv 2) (pa_nil)))) (pa_nil), pss_stop (pss_cons (ps_sto (pv 1) (pv 0))
    (pss_stop (pss_one (ps_sto (pv 2) (pv 0)))))⟩
theorem ok_Questiondd_anddd (T : T0 P K mg) : FR P w K mg base 5 (He.fAd K ("Question", some "__and__")) (sp_Questiondd_anddd K) := by
  obtain ⟨fd, F⟩ := T.F_Questiondd_anddd
  have G_Bothdd_initdd := ok_Bothdd_initdd (P := P) (w := w) (base := base) T
  refine mk_fn F sc_Questiondd_anddd (fun vs H Q E h => by
    revert h; intro h; (repeat (first | (obtain ⟨rfl, _⟩ := h; exact rfl) | obtain ⟨_, h⟩ := h))) (fun _ _ _ _ _ _ us hl => match us, hl with | [_, _], _ => rfl) (t := t_Questiondd_anddd K) (fun cdv A outer s H E hr => ?_) (fun vs H Q E h => pure_Questiondd_anddd vs H Q E h)
  exact pss_one (ps_ret (pe_giv T.D_Both (pe_mk T.K_Both G_Bothdd_initdd (hr.mono (by decide)) T.g_Both passD (pa_cons (pv 0) (pa_cons (pv 1) (pa_nil))))))
theorem ok_dynS_ddanddd (T : T0 P K mg) : DynF P w K mg base 5 csT "__and__" (fun _ => sp_Questiondd_anddd K) := by
  intro c hc
  simp only [csT, List.mem_cons, List.not_mem_nil, or_false] at hc
  rcases hc with rfl | rfl | rfl | rfl | rfl | rfl | rfl
  · exact ⟨T.D_AtMost.cl, _, T.M_AtMost_ddanddd, by rw [T.Q_AtMost_ddanddd]; exact ok_Questiondd_anddd T⟩
  · exact ⟨T.D_Present.cl, _, T.M_Present_ddanddd, by rw [T.Q_Present_ddanddd]; exact ok_Questiondd_anddd T⟩
  · exact ⟨T.D_HasBit.cl, _, T.M_HasBit_ddanddd, by rw [T.Q_HasBit_ddanddd]; exact ok_Questiondd_anddd T⟩
  · exact ⟨T.D_Both.cl, _, T.M_Both_ddanddd, by rw [T.Q_Both_ddanddd]; exact ok_Questiondd_anddd T⟩
  · exact ⟨T.D_Either.cl, _, T.M_Either_ddanddd, by rw [T.Q_Either_ddanddd]; exact ok_Questiondd_anddd T⟩
  · exact ⟨T.D_Opposite.cl, _, T.M_Opposite_ddanddd, by rw [T.Q_Opposite_ddanddd]; exact ok_Questiondd_anddd T⟩
  · exact ⟨T.D_Surely.cl, _, T.M_Surely_ddanddd, by rw [T.Q_Surely_ddanddd]; exact ok_Questiondd_anddd T⟩
theorem ok_Eitherdd_initdd (T : T0 P K mg) : FR P w K mg base 3 (He.fAd K ("Either", some "__init__")) (sp_Eitherdd_initdd K) := by
  have G_Questiondd_initdd := ok_Questiondd_initdd (P := P) (w := w) (base := base) T
  refine mk_fnS (ta := fun E => tCons (dTup K (tCons (dVar 1) (tCons (dVar 2) (tNil)))) (tNil)) (tr := fun E => stop (t_Eitherdd_initdd_r K E)) T.S_Eitherdd_initdd T.n_super sc_Eitherdd_initdd (fun vs H Q E h => by
    revert h; intro h; (repeat (first | (obtain ⟨rfl, _⟩ := h; exact rfl) | obtain ⟨_, h⟩ := h))) (fun _ _ _ _ _ _ _ us hl => match us, hl with | [_, _, _], _ => rfl) (G_Questiondd_initdd.mono (by decide)) rfl ⟨_, rfl, rfl⟩ rfl (by decide +kernel) (fun _ => rfl) (fun _ => rfl) (fun _ => rfl) (fun _ => rfl) (fun cda cc A outer s H E hr => ?_) (fun vs H Q E h => pure_Eitherdd_initdd vs H Q E h)
  exact ⟨pa_cons (pe_tup (pa_cons (pv 1) (pa_cons (pv 2) (pa_nil)))) (pa_nil), pss_stop (pss_cons (ps_sto (pv 1) (pv 0))
    (pss_stop (pss_one (ps_sto (pv 2) (pv 0)))))⟩
theorem ok_Questiondd_ordd (T : T0 P K mg) : FR P w K mg base 5 (He.fAd K ("Question", some "__or__")) (sp_Questiondd_ordd K) := by
  obtain ⟨fd, F⟩ := T.F_Questiondd_ordd
  have G_Eitherdd_initdd := ok_Eitherdd_initdd (P := P) (w := w) (base := base) T
  refine mk_fn F sc_Questiondd_ordd (fun vs H Q E h => by
    revert h; intro h; (repeat (first | (obtain ⟨rfl, _⟩ := h; exact rfl) | obtain ⟨_, h⟩ := h))) (fun _ _ _ _ _ _ us hl => match us, hl with | [_, _], _ => rfl) (t := t_Questiondd_ordd K) (fun cdv A outer s H E hr => ?_) (fun vs H Q E h => pure_Questiondd_ordd vs H Q E h)
  exact pss_one (ps_ret (pe_giv T.D_Either (pe_mk T.K_Either G_Eitherdd_initdd (hr.mono (by decide)) T.g_Either passD (pa_cons (pv 0) (pa_cons (pv 1) (pa_nil))))))
theorem ok_dynS_ddordd (T : T0 P K mg) : DynF P w K mg base 5 csT "__or__" (fun _ => sp_Questiondd_ordd K) := by
  intro c hc
  simp only [csT, List.mem_cons, List.not_mem_nil, or_false] at hc
  rcases hc with rfl | rfl | rfl | rfl | rfl | rfl | rfl
  · exact ⟨T.D_AtMost.cl, _, T.M_AtMost_ddordd, by rw [T.Q_AtMost_ddordd]; exact ok_Questiondd_ordd T⟩
  · exact ⟨T.D_Present.cl, _, T.M_Present_ddordd, by rw [T.Q_Present_ddordd]; exact ok_Questiondd_ordd T⟩
  · exact ⟨T.D_HasBit.cl, _, T.M_HasBit_ddordd, by rw [T.Q_HasBit_ddordd]; exact ok_Questiondd_ordd T⟩
  · exact ⟨T.D_Both.cl, _, T.M_Both_ddordd, by rw [T.Q_Both_ddordd]; exact ok_Questiondd_ordd T⟩
  · exact ⟨T.D_Either.cl, _, T.M_Either_ddordd, by rw [T.Q_Either_ddordd]; exact ok_Questiondd_ordd T⟩
  · exact ⟨T.D_Opposite.cl, _, T.M_Opposite_ddordd, by rw [T.Q_Opposite_ddordd]; exact ok_Questiondd_ordd T⟩
  · exact ⟨T.D_Surely.cl, _, T.M_Surely_ddordd, by rw [T.Q_Surely_ddordd]; exact ok_Questiondd_ordd T⟩
theorem ok_Oppositedd_initdd (T : T0 P K mg) : FR P w K mg base 3 (He.fAd K ("Opposite", some "__init__")) (sp_Oppositedd_initdd K) := by
  have G_Questiondd_initdd := ok_Questiondd_initdd (P := P) (w := w) (base := base) T
  refine mk_fnS (ta := fun E => tCons (dTup K (tCons (dVar 1) (tNil))) (tNil)) (tr := fun E => stop (t_Oppositedd_initdd_r K E)) T.S_Oppositedd_initdd T.n_super sc_Oppositedd_initdd (fun vs H Q E h => by
    revert h; intro h; (repeat (first | (obtain ⟨rfl, _⟩ := h; exact rfl) | obtain ⟨_, h⟩ := h))) (fun _ _ _ _ _ _ _ us hl => match us, hl with | [_, _], _ => rfl) (G_Questiondd_initdd.mono (by decide)) rfl ⟨_, rfl, rfl⟩ rfl (by decide +kernel) (fun _ => rfl) (fun _ => rfl) (fun _ => rfl) (fun _ => rfl) (fun cda cc A outer s H E hr => ?_) (fun vs H Q E h => pure_Oppositedd_initdd vs H Q E h)
  exact ⟨pa_cons (pe_tup (pa_cons (pv 1) (pa_nil))) (pa_nil), pss_stop (pss_one (ps_sto (pv 1) (pv 0)))⟩
theorem ok_Questiondd_invertdd (T : T0 P K mg) : FR P w K mg base 5 (He.fAd K ("Question", some "__invert__")) (sp_Questiondd_invertdd K) := by
  obtain ⟨fd, F⟩ := T.F_Questiondd_invertdd
  have G_Oppositedd_initdd := ok_Oppositedd_initdd (P := P) (w := w) (base := base) T
  refine mk_fn F sc_Questiondd_invertdd (fun vs H Q E h => by
    revert h; intro h; (repeat (first | (obtain ⟨rfl, _⟩ := h; exact rfl) | obtain ⟨_, h⟩ := h))) (fun _ _ _ _ _ _ us hl => match us, hl with | [_], _ => rfl) (t := t_Questiondd_invertdd K) (fun cdv A outer s H E hr => ?_) (fun vs H Q E h => pure_Questiondd_invertdd vs H Q E h)
  exact pss_one (ps_ret (pe_giv T.D_Opposite (pe_mk T.K_Opposite G_Oppositedd_initdd (hr.mono (by decide)) T.g_Opposite passD (pa_cons (pv 0) (pa_nil)))))
theorem ok_dynS_ddinvertdd (T : T0 P K mg) : DynF P w K mg base 5 csT "__invert__" (fun _ => sp_Questiondd_invertdd K) := by
  intro c hc
  simp only [csT, List.mem_cons, List.not_mem_nil, or_false] at hc
  rcases hc with rfl | rfl | rfl | rfl | rfl | rfl | rfl
  · exact ⟨T.D_AtMost.cl, _, T.M_AtMost_ddinvertdd, by rw [T.Q_AtMost_ddinvertdd]; exact ok_Questiondd_invertdd T⟩
  · exact ⟨T.D_Present.cl, _, T.M_Present_ddinvertdd, by rw [T.Q_Present_ddinvertdd]; exact ok_Questiondd_invertdd T⟩
  · exact ⟨T.D_HasBit.cl, _, T.M_HasBit_ddinvertdd, by rw [T.Q_HasBit_ddinvertdd]; exact ok_Questiondd_invertdd T⟩
  · exact ⟨T.D_Both.cl, _, T.M_Both_ddinvertdd, by rw [T.Q_Both_ddinvertdd]; exact ok_Questiondd_invertdd T⟩
  · exact ⟨T.D_Either.cl, _, T.M_Either_ddinvertdd, by rw [T.Q_Either_ddinvertdd]; exact ok_Questiondd_invertdd T⟩
  · exact ⟨T.D_Opposite.cl, _, T.M_Opposite_ddinvertdd, by rw [T.Q_Opposite_ddinvertdd]; exact ok_Questiondd_invertdd T⟩
  · exact ⟨T.D_Surely.cl, _, T.M_Surely_ddinvertdd, by rw [T.Q_Surely_ddinvertdd]; exact ok_Questiondd_invertdd T⟩
theorem ok_Surelydd_initdd (T : T0 P K mg) : FR P w K mg base 3 (He.fAd K ("Surely", some "__init__")) (sp_Surelydd_initdd K) := by
  have G_Questiondd_initdd := ok_Questiondd_initdd (P := P) (w := w) (base := base) T
  refine mk_fnS (ta := fun E => tCons (dTup K (tCons (dVar 1) (tNil))) (tNil)) (tr := fun E => stop (t_Surelydd_initdd_r K E)) T.S_Surelydd_initdd T.n_super sc_Surelydd_initdd (fun vs H Q E h => by
    revert h; intro h; (repeat (first | (obtain ⟨rfl, _⟩ := h; exact rfl) | obtain ⟨_, h⟩ := h))) (fun _ _ _ _ _ _ _ us hl => match us, hl with | [_, _], _ => rfl) (G_Questiondd_initdd.mono (by decide)) rfl ⟨_, rfl, rfl⟩ rfl (by decide +kernel) (fun _ => rfl) (fun _ => rfl) (fun _ => rfl) (fun _ => rfl) (fun cda cc A outer s H E hr => ?_) (fun vs H Q E h => pure_Surelydd_initdd vs H Q E h)
  exact ⟨pa_cons (pe_tup (pa_cons (pv 1) (pa_nil))) (pa_nil), pss_stop (pss_one (ps_sto (pv 1) (pv 0)))⟩
theorem ok_Question_surely (T : T0 P K mg) : FR P w K mg base 5 (He.fAd K ("Question", some "surely")) (sp_Question_surely K) := by
  obtain ⟨fd, F⟩ := T.F_Question_surely
  have G_Surelydd_initdd := ok_Surelydd_initdd (P := P) (w := w) (base := base) T
  refine mk_fn F sc_Question_surely (fun vs H Q E h => by
    revert h; intro h; (repeat (first | (obtain ⟨rfl, _⟩ := h; exact rfl) | obtain ⟨_, h⟩ := h))) (fun _ _ _ _ _ _ us hl => match us, hl with | [_], _ => rfl) (t := t_Question_surely K) (fun cdv A outer s H E hr => ?_) (fun vs H Q E h => pure_Question_surely vs H Q E h)
  exact pss_one (ps_ret (pe_giv T.D_Surely (pe_mk T.K_Surely G_Surelydd_initdd (hr.mono (by decide)) T.g_Surely passD (pa_cons (pv 0) (pa_nil)))))
theorem ok_dynS_surely (T : T0 P K mg) : DynF P w K mg base 5 csT "surely" (fun _ => sp_Question_surely K) := by
  intro c hc
  simp only [csT, List.mem_cons, List.not_mem_nil, or_false] at hc
  rcases hc with rfl | rfl | rfl | rfl | rfl | rfl | rfl
  · exact ⟨T.D_AtMost.cl, _, T.M_AtMost_surely, by rw [T.Q_AtMost_surely]; exact ok_Question_surely T⟩
  · exact ⟨T.D_Present.cl, _, T.M_Present_surely, by rw [T.Q_Present_surely]; exact ok_Question_surely T⟩
  · exact ⟨T.D_HasBit.cl, _, T.M_HasBit_surely, by rw [T.Q_HasBit_surely]; exact ok_Question_surely T⟩
  · exact ⟨T.D_Both.cl, _, T.M_Both_surely, by rw [T.Q_Both_surely]; exact ok_Question_surely T⟩
  · exact ⟨T.D_Either.cl, _, T.M_Either_surely, by rw [T.Q_Either_surely]; exact ok_Question_surely T⟩
  · exact ⟨T.D_Opposite.cl, _, T.M_Opposite_surely, by rw [T.Q_Opposite_surely]; exact ok_Question_surely T⟩
  · exact ⟨T.D_Surely.cl, _, T.M_Surely_surely, by rw [T.Q_Surely_surely]; exact ok_Question_surely T⟩
theorem ok_Presentdd_initdd (T : T0 P K mg) : FR P w K mg base 3 (He.fAd K ("Present", some "__init__")) (sp_Presentdd_initdd K) := by
  have G_Questiondd_initdd := ok_Questiondd_initdd (P := P) (w := w) (base := base) T
  refine mk_fnS (ta := fun E => tCons (dTup K (tNil)) (tNil)) (tr := fun E => stop (t_Presentdd_initdd_r K E)) T.S_Presentdd_initdd T.n_super sc_Presentdd_initdd (fun vs H Q E h => by
    revert h; intro h; (repeat (first | (obtain ⟨rfl, _⟩ := h; exact rfl) | obtain ⟨_, h⟩ := h))) (fun _ _ _ _ _ _ _ us hl => match us, hl with | [_, _], _ => rfl) (G_Questiondd_initdd.mono (by decide)) rfl ⟨_, rfl, rfl⟩ rfl (by decide +kernel) (fun _ => rfl) (fun _ => rfl) (fun _ => rfl) (fun _ => rfl) (fun cda cc A outer s H E hr => ?_) (fun vs H Q E h => pure_Presentdd_initdd vs H Q E h)
  exact ⟨pa_cons (pe_tup (pa_nil)) (pa_nil), pss_stop (pss_one (ps_sto (pv 1) (pv 0)))⟩
theorem ok_HasBitdd_initdd (T : T0 P K mg) : FR P w K mg base 3 (He.fAd K ("HasBit", some "__init__")) (sp_HasBitdd_initdd K) := by
  have G_Questiondd_initdd := ok_Questiondd_initdd (P := P) (w := w) (base := base) T
  refine mk_fnS (ta := fun E => tCons (dTup K (tNil)) (tNil)) (tr := fun E => stop (t_HasBitdd_initdd_r K E)) T.S_HasBitdd_initdd T.n_super sc_HasBitdd_initdd (fun vs H Q E h => by
    revert h; intro h; (repeat (first | (obtain ⟨rfl, _⟩ := h; exact rfl) | obtain ⟨_, h⟩ := h))) (fun _ _ _ _ _ _ _ us hl => match us, hl with | [_, _, _], _ => rfl) (G_Questiondd_initdd.mono (by decide)) rfl ⟨_, rfl, rfl⟩ rfl (by decide +kernel) (fun _ => rfl) (fun _ => rfl) (fun _ => rfl) (fun _ => rfl) (fun cda cc A outer s H E hr => ?_) (fun vs H Q E h => pure_HasBitdd_initdd vs H Q E h)
  exact ⟨pa_cons (pe_tup (pa_nil)) (pa_nil), pss_stop (pss_cons (ps_sto (pv 1) (pv 0))
    (pss_stop (pss_one (ps_sto (pv 2) (pv 0)))))⟩
theorem okd_Formdd_initdd (T : T0 P K mg) {fd : FuncData} (F : FunD K "__init__" "Form.__init__" (defArgs s_Formdd_initdd) (defBody s_Formdd_initdd) (defScope s_Formdd_initdd) [V.int 0] [] (He.fAd K ("Form", some "__init__")) fd) {ex : List V} (hb : ∃ ds, Vals ex ds ∧ Binds K fd ["self", "terms", "offset"] ds) : FR P w K mg base 1 (He.fAd K ("Form", some "__init__")) (spD (sp_Formdd_initdd K) ex) := by
  refine mk_fnD F sc_Formdd_initdd (fun vs H Q E h => by
    revert h; intro h; (repeat (first | (obtain ⟨rfl, _⟩ := h; exact rfl) | obtain ⟨_, h⟩ := h))) hb (t := t_Formdd_initdd K) (fun cdv A outer s H E hr => ?_) (fun vs H Q E h => pure_Formdd_initdd vs H Q E h)
  exact pss_cons (ps_sto (pe_ct c_tupleF T.n_tuple (by decide +kernel) (pa_cons (pe_lc (own := [("name", 3)]) rfl sc_Formdd_initdd.nd (pi_seq (pe_cb (c_sortedD rfl) T.n_sorted (by decide +kernel) (pa_cons (pv 1) (pa_nil)))) (blkOk_by (own := [("name", 3)]) (N := ["self", "terms", "offset", "name"]) (sc := defScope s_Formdd_initdd) (by decide +kernel)) (fun _ _ _ _ _ => pg_name (i := 3) sc_Formdd_initdd.nd rfl (Or.inl rfl)) (fun _ _ _ _ _ => pts_nil) (fun _ _ _ _ _ => pe_tup (pa_cons (pv 3) (pa_cons (pe_ix (ix_dict hr.units) (pv 1) (pv 3) (fun _ _ => rfl)) (pa_nil))))) (pa_nil))) (pv 0))
    (pss_stop (pss_one (ps_sto (pv 2) (pv 0))))
theorem ok_Formdd_initdd_2 (T : T0 P K mg) : FR P w K mg base 1 (He.fAd K ("Form", some "__init__")) (spD (sp_Formdd_initdd K) [V.int 0]) := by
  obtain ⟨fd, F⟩ := T.F_Formdd_initdd
  have hb := FunD.binds1 (ps := ["self", "terms", "offset"]) F 2 0 (List.cons_ne_nil _ _) rfl fun T kV doc pm an cdv ct us its l1 l2 => match us, its, l1, l2 with | [_, _], [_], _, _ => ⟨_, rfl, rfl⟩
  exact  (okd_Formdd_initdd (P := P) (w := w) (base := base) T F hb)
theorem ok_AtMostdd_initdd (T : T0 P K mg) : FR P w K mg base 3 (He.fAd K ("AtMost", some "__init__")) (sp_AtMostdd_initdd K) := by
  have G_Questiondd_initdd := ok_Questiondd_initdd (P := P) (w := w) (base := base) T
  refine mk_fnS (ta := fun E => tCons (dTup K (tNil)) (tNil)) (tr := fun E => stop (t_AtMostdd_initdd_r K E)) T.S_AtMostdd_initdd T.n_super sc_AtMostdd_initdd (fun vs H Q E h => by
    revert h; intro h; (repeat (first | (obtain ⟨rfl, _⟩ := h; exact rfl) | obtain ⟨_, h⟩ := h))) (fun _ _ _ _ _ _ _ us hl => match us, hl with | [_, _, _], _ => rfl) (G_Questiondd_initdd.mono (by decide)) rfl ⟨_, rfl, rfl⟩ rfl (by decide +kernel) (fun _ => rfl) (fun _ => rfl) (fun _ => rfl) (fun _ => rfl) (fun cda cc A outer s H E hr => ?_) (fun vs H Q E h => pure_AtMostdd_initdd vs H Q E h)
  exact ⟨pa_cons (pe_tup (pa_nil)) (pa_nil), pss_stop (pss_cons (ps_sto (pe_at (pv 1)) (pv 0))
    (pss_stop (pss_one (ps_sto (pe_op o_sub (pv 2) (pe_at (pv 1))) (pv 0)))))⟩
theorem ok__law_question (T : T0 P K mg) : FR P w K mg base 9 (He.fAd K ("_law_question", none)) (sp__law_question K) := by
  obtain ⟨fd, F⟩ := T.F__law_question
  have G_AtMostdd_initdd := ok_AtMostdd_initdd (P := P) (w := w) (base := base) T
  have G_Formdd_initdd_2 := ok_Formdd_initdd_2 (P := P) (w := w) (base := base) T
  have G_HasBitdd_initdd := ok_HasBitdd_initdd (P := P) (w := w) (base := base) T
  have G_Presentdd_initdd := ok_Presentdd_initdd (P := P) (w := w) (base := base) T
  have G_dynS_ddanddd := ok_dynS_ddanddd (P := P) (w := w) (base := base) T
  have G_dynS_ddinvertdd := ok_dynS_ddinvertdd (P := P) (w := w) (base := base) T
  have G_dynS_ddordd := ok_dynS_ddordd (P := P) (w := w) (base := base) T
  have G_dynS_surely := ok_dynS_surely (P := P) (w := w) (base := base) T
  refine mk_fn F sc__law_question (fun vs H Q E h => by
    revert h; intro h; (repeat (first | (obtain ⟨rfl, _⟩ := h; exact rfl) | obtain ⟨_, h⟩ := h))) (fun _ _ _ _ _ _ us hl => match us, hl with | [_], _ => rfl) (t := t__law_question K) (fun cdv A outer s H E hr => ?_) (fun vs H Q E h => pure__law_question vs H Q E h)
  exact pss_cons (ps_set (i := 1) sc__law_question.nd rfl (Or.inl rfl) (pe_lst (pa_nil)))
    (pss_stop (pss_cons (ps_for ownD rfl (pi_seq (pv 0)) (pg_name (i := 2) sc__law_question.nd rfl (Or.inl rfl)) (pss_one (ps_if (pt_cmp (o_eq hr.units) (pe_ix (ix_dict hr.units) (pv 2) (pe_int) (fun _ _ => rfl)) (pe_str) (nomark _)) (pss_cons (ps_set (i := 3) sc__law_question.nd rfl (Or.inl rfl) (pe_ml0 PySem.F.slot_list_pop PySem.F.type_list_pop m_pop (pv 1)))
    (pss_one (ps_asg (pe_op (op_dynB (op := .BitAnd) T.NF_and G_dynS_ddanddd (hr.mono (by decide)) passD o_and) (pe_ix (ix_dict hr.units) (pv 1) (pe_un u_neg (pe_int)) (fun _ _ => rfl)) (pv 3)) (pg_sub (pv 1) (pe_un u_neg (pe_int)) (s_dict hr.units))))) (pss_one (ps_if (pt_cmp (o_eq hr.units) (pe_ix (ix_dict hr.units) (pv 2) (pe_int) (fun _ _ => rfl)) (pe_str) (nomark _)) (pss_cons (ps_set (i := 3) sc__law_question.nd rfl (Or.inl rfl) (pe_ml0 PySem.F.slot_list_pop PySem.F.type_list_pop m_pop (pv 1)))
    (pss_one (ps_asg (pe_op (op_dynB (op := .BitOr) T.NF_or G_dynS_ddordd (hr.mono (by decide)) passD o_no) (pe_ix (ix_dict hr.units) (pv 1) (pe_un u_neg (pe_int)) (fun _ _ => rfl)) (pv 3)) (pg_sub (pv 1) (pe_un u_neg (pe_int)) (s_dict hr.units))))) (pss_one (ps_if (pt_cmp (o_eq hr.units) (pe_ix (ix_dict hr.units) (pv 2) (pe_int) (fun _ _ => rfl)) (pe_str) (nomark _)) (pss_one (ps_asg (pe_un (u_invDyn G_dynS_ddinvertdd (hr.mono (by decide)) passD) (pe_ix (ix_dict hr.units) (pv 1) (pe_un u_neg (pe_int)) (fun _ _ => rfl))) (pg_sub (pv 1) (pe_un u_neg (pe_int)) (s_dict hr.units)))) (pss_one (ps_if (pt_cmp (o_eq hr.units) (pe_ix (ix_dict hr.units) (pv 2) (pe_int) (fun _ _ => rfl)) (pe_str) (nomark _)) (pss_one (ps_asg (pe_dyn0 G_dynS_surely (hr.mono (by decide)) passD (pe_ix (ix_dict hr.units) (pv 1) (pe_un u_neg (pe_int)) (fun _ _ => rfl))) (pg_sub (pv 1) (pe_un u_neg (pe_int)) (s_dict hr.units)))) (pss_one (ps_if (pt_cmp (o_eq hr.units) (pe_ix (ix_dict hr.units) (pv 2) (pe_int) (fun _ _ => rfl)) (pe_str) (nomark _)) (pss_one (ps_expr (pe_ml PySem.F.slot_list_append PySem.F.type_list_append m_app (pv 1) (pa_cons (pe_ix (ix_dict hr.units) (pv 1) (pe_un u_neg (pe_int)) (fun _ _ => rfl)) (pa_nil))))) (pss_one (ps_if (pt_cmp (o_eq hr.units) (pe_ix (ix_dict hr.units) (pv 2) (pe_int) (fun _ _ => rfl)) (pe_str) (nomark _)) (pss_one (ps_expr (pe_ml PySem.F.slot_list_append PySem.F.type_list_append m_app (pv 1) (pa_cons (pe_giv T.D_Present (pe_mk T.K_Present G_Presentdd_initdd (hr.mono (by decide)) T.g_Present passD (pa_cons (pe_ix (ix_dict hr.units) (pv 2) (pe_int) (fun _ _ => rfl)) (pa_nil)))) (pa_nil))))) (pss_one (ps_if (pt_cmp (o_eq hr.units) (pe_ix (ix_dict hr.units) (pv 2) (pe_int) (fun _ _ => rfl)) (pe_str) (nomark _)) (pss_one (ps_expr (pe_ml PySem.F.slot_list_append PySem.F.type_list_append m_app (pv 1) (pa_cons (pe_giv T.D_HasBit (pe_mk T.K_HasBit G_HasBitdd_initdd (hr.mono (by decide)) T.g_HasBit passD (pa_cons (pe_ix (ix_dict hr.units) (pv 2) (pe_int) (fun _ _ => rfl)) (pa_cons (pe_ix (ix_dict hr.units) (pv 2) (pe_int) (fun _ _ => rfl)) (pa_nil))))) (pa_nil))))) (pss_cons (ps_set (i := 4) sc__law_question.nd rfl (Or.inl rfl) (pe_newK))
    (pss_cons (ps_for ownD rfl (pi_seq (pe_ix (ix_dict hr.units) (pv 2) (pe_int) (fun _ _ => rfl))) (pg_name (i := 5) sc__law_question.nd rfl (Or.inl rfl)) (pss_one (ps_asg (pe_ix (ix_dict hr.units) (pv 5) (pe_int) (fun _ _ => rfl)) (pg_sub (pv 4) (pe_ix (ix_dict hr.units) (pv 5) (pe_int) (fun _ _ => rfl)) (s_dict hr.units)))))
    (pss_one (ps_expr (pe_ml PySem.F.slot_list_append PySem.F.type_list_append m_app (pv 1) (pa_cons (pe_giv T.D_AtMost (pe_mk T.K_AtMost G_AtMostdd_initdd (hr.mono (by decide)) T.g_AtMost passD (pa_cons (pe_giv T.C_Form (pe_mk T.K_Form G_Formdd_initdd_2 (hr.mono (by decide)) T.g_Form passD (pa_cons (pv 4) (pa_nil)))) (pa_cons (pe_ix (ix_dict hr.units) (pv 2) (pe_int) (fun _ _ => rfl)) (pa_nil))))) (pa_nil))))))))))))))))))))))
    (pss_stop (pss_one (ps_ret (pe_ix (ix_dict hr.units) (pv 1) (pe_un u_neg (pe_int)) (fun _ _ => rfl)))))))
theorem ok__law_value (T : T0 P K mg) : FR P w K mg base 4 (He.fAd K ("_law_value", none)) (sp__law_value K) := by
  obtain ⟨fd, F⟩ := T.F__law_value
  have G__law_draw := ok__law_draw (P := P) (w := w) (base := base) T
  have G__law_number := ok__law_number (P := P) (w := w) (base := base) T
  refine mk_fn F sc__law_value (fun vs H Q E h => by
    revert h; intro h; (repeat (first | (obtain ⟨rfl, _⟩ := h; exact rfl) | obtain ⟨_, h⟩ := h))) (fun _ _ _ _ _ _ us hl => match us, hl with | [_, _, _], _ => rfl) (t := t__law_value K) (fun cdv A outer s H E hr => ?_) (fun vs H Q E h => pure__law_value vs H Q E h)
  exact pss_cons (ps_if (pt_cmp (o_eq hr.units) (pe_call (G__law_draw) (hr.mono (by decide)) T.g__law_draw T.k__law_draw passD (pa_cons (pv 0) (pa_cons (pv 1) (pa_cons (pe_int) (pa_nil))))) (pe_int) (nomark _)) (pss_one (ps_ret (pe_non))) (pss_nil))
    (pss_stop (pss_one (ps_ret (pe_call (G__law_number) (hr.mono (by decide)) T.g__law_number T.k__law_number passD (pa_cons (pv 0) (pa_cons (pv 1) (pa_cons (pv 2) (pa_nil))))))))
theorem ok__law_leaf_truth (T : T0 P K mg) : FR P w K mg base 1 (He.fAd K ("_law_leaf_truth", none)) (sp__law_leaf_truth K) := by
  obtain ⟨fd, F⟩ := T.F__law_leaf_truth
  refine mk_fn F sc__law_leaf_truth (fun vs H Q E h => by
    revert h; intro h; (repeat (first | (obtain ⟨rfl, _⟩ := h; exact rfl) | obtain ⟨_, h⟩ := h))) (fun _ _ _ _ _ _ us hl => match us, hl with | [_, _], _ => rfl) (t := t__law_leaf_truth K) (fun cdv A outer s H E hr => ?_) (fun vs H Q E h => pure__law_leaf_truth vs H Q E h)
  exact pss_cons (ps_if (pt_cmp (o_eq hr.units) (pe_ix (ix_dict hr.units) (pv 0) (pe_int) (fun _ _ => rfl)) (pe_str) (nomark _)) (pss_cons (ps_if (pt_cmp o_isN (pe_ix (ix_dict hr.units) (pv 1) (pe_ix (ix_dict hr.units) (pv 0) (pe_int) (fun _ _ => rfl)) (fun _ _ => rfl)) (pe_non) (nomark _)) (pss_one (ps_ret (pe_tup (pa_cons (pe_bl) (pa_cons (pe_bl) (pa_nil)))))) (pss_nil))
    (pss_cons (ps_set (i := 2) sc__law_leaf_truth.nd rfl (Or.inl rfl) (pe_cmp (o_eq hr.units) (pe_op o_and (pe_op o_shr (pe_ix (ix_dict hr.units) (pv 1) (pe_ix (ix_dict hr.units) (pv 0) (pe_int) (fun _ _ => rfl)) (fun _ _ => rfl)) (pe_ix (ix_dict hr.units) (pv 0) (pe_int) (fun _ _ => rfl))) (pe_int)) (pe_int) (nomark _)))
    (pss_one (ps_ret (pe_tup (pa_cons (pv 2) (pa_cons (pe_not (pv 2)) (pa_nil)))))))) (pss_nil))
    (pss_stop (pss_cons (ps_set (i := 3) sc__law_leaf_truth.nd rfl (Or.inl rfl) (pe_int))
    (pss_stop (pss_cons (ps_for ownD rfl (pi_seq (pe_ix (ix_dict hr.units) (pv 0) (pe_int) (fun _ _ => rfl))) (pg_name (i := 4) sc__law_leaf_truth.nd rfl (Or.inl rfl)) (pss_cons (ps_if (pt_cmp o_isN (pe_ix (ix_dict hr.units) (pv 1) (pe_ix (ix_dict hr.units) (pv 4) (pe_int) (fun _ _ => rfl)) (fun _ _ => rfl)) (pe_non) (nomark _)) (pss_one (ps_ret (pe_tup (pa_cons (pe_bl) (pa_cons (pe_bl) (pa_nil)))))) (pss_nil))
    (pss_stop (pss_one (ps_set (i := 3) sc__law_leaf_truth.nd rfl (Or.inl rfl) (pe_op o_add (pv 3) (pe_op o_mulA (pe_ix (ix_dict hr.units) (pv 4) (pe_int) (fun _ _ => rfl)) (pe_ix (ix_dict hr.units) (pv 1) (pe_ix (ix_dict hr.units) (pv 4) (pe_int) (fun _ _ => rfl)) (fun _ _ => rfl)))))))))
    (pss_stop (pss_one (ps_ret (pe_tup (pa_cons (pe_cmp o_le (pv 3) (pe_ix (ix_dict hr.units) (pv 0) (pe_int) (fun _ _ => rfl)) (nomark _)) (pa_cons (pe_cmp o_gt (pv 3) (pe_ix (ix_dict hr.units) (pv 0) (pe_int) (fun _ _ => rfl)) (nomark _)) (pa_nil)))))))))))
theorem ok__law_truth (T : T0 P K mg) : FR P w K mg base 2 (He.fAd K ("_law_truth", none)) (sp__law_truth K) := by
  obtain ⟨fd, F⟩ := T.F__law_truth
  have G__law_leaf_truth := ok__law_leaf_truth (P := P) (w := w) (base := base) T
  refine mk_fn F sc__law_truth (fun vs H Q E h => by
    revert h; intro h; (repeat (first | (obtain ⟨rfl, _⟩ := h; exact rfl) | obtain ⟨_, h⟩ := h))) (fun _ _ _ _ _ _ us hl => match us, hl with | [_, _], _ => rfl) (t := t__law_truth K) (fun cdv A outer s H E hr => ?_) (fun vs H Q E h => pure__law_truth vs H Q E h)
  exact pss_cons (ps_set (i := 2) sc__law_truth.nd rfl (Or.inl rfl) (pe_lst (pa_nil)))
    (pss_stop (pss_cons (ps_for ownD rfl (pi_seq (pv 0)) (pg_name (i := 3) sc__law_truth.nd rfl (Or.inl rfl)) (pss_one (ps_if (pt_cmp (o_eq hr.units) (pe_ix (ix_dict hr.units) (pv 3) (pe_int) (fun _ _ => rfl)) (pe_str) (nomark _)) (pss_cons (ps_set (i := 4) sc__law_truth.nd rfl (Or.inl rfl) (pe_ml0 PySem.F.slot_list_pop PySem.F.type_list_pop m_pop (pv 2)))
    (pss_one (ps_asg (pe_tup (pa_cons (pe_and (pe_ix (ix_dict hr.units) (pe_ix (ix_dict hr.units) (pv 2) (pe_un u_neg (pe_int)) (fun _ _ => rfl)) (pe_int) (fun _ _ => rfl)) (pe_one (pe_ix (ix_dict hr.units) (pv 4) (pe_int) (fun _ _ => rfl)))) (pa_cons (pe_or (pe_ix (ix_dict hr.units) (pe_ix (ix_dict hr.units) (pv 2) (pe_un u_neg (pe_int)) (fun _ _ => rfl)) (pe_int) (fun _ _ => rfl)) (pe_one (pe_ix (ix_dict hr.units) (pv 4) (pe_int) (fun _ _ => rfl)))) (pa_nil)))) (pg_sub (pv 2) (pe_un u_neg (pe_int)) (s_dict hr.units))))) (pss_one (ps_if (pt_cmp (o_eq hr.units) (pe_ix (ix_dict hr.units) (pv 3) (pe_int) (fun _ _ => rfl)) (pe_str) (nomark _)) (pss_cons (ps_set (i := 4) sc__law_truth.nd rfl (Or.inl rfl) (pe_ml0 PySem.F.slot_list_pop PySem.F.type_list_pop m_pop (pv 2)))
    (pss_one (ps_asg (pe_tup (pa_cons (pe_or (pe_ix (ix_dict hr.units) (pe_ix (ix_dict hr.units) (pv 2) (pe_un u_neg (pe_int)) (fun _ _ => rfl)) (pe_int) (fun _ _ => rfl)) (pe_one (pe_ix (ix_dict hr.units) (pv 4) (pe_int) (fun _ _ => rfl)))) (pa_cons (pe_and (pe_ix (ix_dict hr.units) (pe_ix (ix_dict hr.units) (pv 2) (pe_un u_neg (pe_int)) (fun _ _ => rfl)) (pe_int) (fun _ _ => rfl)) (pe_one (pe_ix (ix_dict hr.units) (pv 4) (pe_int) (fun _ _ => rfl)))) (pa_nil)))) (pg_sub (pv 2) (pe_un u_neg (pe_int)) (s_dict hr.units))))) (pss_one (ps_if (pt_cmp (o_eq hr.units) (pe_ix (ix_dict hr.units) (pv 3) (pe_int) (fun _ _ => rfl)) (pe_str) (nomark _)) (pss_one (ps_asg (pe_tup (pa_cons (pe_ix (ix_dict hr.units) (pe_ix (ix_dict hr.units) (pv 2) (pe_un u_neg (pe_int)) (fun _ _ => rfl)) (pe_int) (fun _ _ => rfl)) (pa_cons (pe_ix (ix_dict hr.units) (pe_ix (ix_dict hr.units) (pv 2) (pe_un u_neg (pe_int)) (fun _ _ => rfl)) (pe_int) (fun _ _ => rfl)) (pa_nil)))) (pg_sub (pv 2) (pe_un u_neg (pe_int)) (s_dict hr.units)))) (pss_one (ps_if (pt_cmp (o_eq hr.units) (pe_ix (ix_dict hr.units) (pv 3) (pe_int) (fun _ _ => rfl)) (pe_str) (nomark _)) (pss_one (ps_asg (pe_tup (pa_cons (pe_ix (ix_dict hr.units) (pe_ix (ix_dict hr.units) (pv 2) (pe_un u_neg (pe_int)) (fun _ _ => rfl)) (pe_int) (fun _ _ => rfl)) (pa_cons (pe_not (pe_ix (ix_dict hr.units) (pe_ix (ix_dict hr.units) (pv 2) (pe_un u_neg (pe_int)) (fun _ _ => rfl)) (pe_int) (fun _ _ => rfl))) (pa_nil)))) (pg_sub (pv 2) (pe_un u_neg (pe_int)) (s_dict hr.units)))) (pss_one (ps_if (pt_cmp (o_eq hr.units) (pe_ix (ix_dict hr.units) (pv 3) (pe_int) (fun _ _ => rfl)) (pe_str) (nomark _)) (pss_one (ps_expr (pe_ml PySem.F.slot_list_append PySem.F.type_list_append m_app (pv 2) (pa_cons (pe_ix (ix_dict hr.units) (pv 2) (pe_un u_neg (pe_int)) (fun _ _ => rfl)) (pa_nil))))) (pss_one (ps_if (pt_cmp (o_eq hr.units) (pe_ix (ix_dict hr.units) (pv 3) (pe_int) (fun _ _ => rfl)) (pe_str) (nomark _)) (pss_one (ps_expr (pe_ml PySem.F.slot_list_append PySem.F.type_list_append m_app (pv 2) (pa_cons (pe_tup (pa_cons (pe_cmp o_notN (pe_ix (ix_dict hr.units) (pv 1) (pe_ix (ix_dict hr.units) (pv 3) (pe_int) (fun _ _ => rfl)) (fun _ _ => rfl)) (pe_non) (nomark _)) (pa_cons (pe_cmp o_isN (pe_ix (ix_dict hr.units) (pv 1) (pe_ix (ix_dict hr.units) (pv 3) (pe_int) (fun _ _ => rfl)) (fun _ _ => rfl)) (pe_non) (nomark _)) (pa_nil)))) (pa_nil))))) (pss_one (ps_expr (pe_ml PySem.F.slot_list_append PySem.F.type_list_append m_app (pv 2) (pa_cons (pe_call (G__law_leaf_truth) (hr.mono (by decide)) T.g__law_leaf_truth T.k__law_leaf_truth passD (pa_cons (pv 3) (pa_cons (pv 1) (pa_nil)))) (pa_nil))))))))))))))))))
    (pss_stop (pss_cons (ps_if (pt_of (pe_ix (ix_dict hr.units) (pe_ix (ix_dict hr.units) (pv 2) (pe_un u_neg (pe_int)) (fun _ _ => rfl)) (pe_int) (fun _ _ => rfl))) (pss_one (ps_ret (pe_bl))) (pss_nil))
    (pss_stop (pss_cons (ps_if (pt_of (pe_ix (ix_dict hr.units) (pe_ix (ix_dict hr.units) (pv 2) (pe_un u_neg (pe_int)) (fun _ _ => rfl)) (pe_int) (fun _ _ => rfl))) (pss_one (ps_ret (pe_bl))) (pss_nil))
    (pss_stop (pss_one (ps_ret (pe_non))))))))))
theorem ok_Form_value (T : T0 P K mg) : FR P w K mg base 1 (He.fAd K ("Form", some "value")) (sp_Form_value K) := by
  obtain ⟨fd, F⟩ := T.F_Form_value
  refine mk_fn F sc_Form_value (fun vs H Q E h => by
    revert h; intro h; (repeat (first | (obtain ⟨rfl, _⟩ := h; exact rfl) | obtain ⟨_, h⟩ := h))) (fun _ _ _ _ _ _ us hl => match us, hl with | [_, _], _ => rfl) (t := t_Form_value K) (fun cdv A outer s H E hr => ?_) (fun vs H Q E h => pure_Form_value vs H Q E h)
  exact pss_cons (ps_set (i := 2) sc_Form_value.nd rfl (Or.inl rfl) (pe_at (pv 0)))
    (pss_stop (pss_cons (ps_for ownD rfl (pi_seq (pe_at (pv 0))) (pg_tup rfl (pgs_cons (pg_name (i := 3) sc_Form_value.nd rfl (Or.inl rfl)) (pgs_cons (pg_name (i := 4) sc_Form_value.nd rfl (Or.inl rfl)) (pgs_nil)))) (pss_cons (ps_if (pt_cmp o_isN (pe_ix (ix_dict hr.units) (pv 1) (pv 3) (fun _ _ => rfl)) (pe_non) (nomark _)) (pss_one (ps_ret (pe_non))) (pss_nil))
    (pss_stop (pss_one (ps_set (i := 2) sc_Form_value.nd rfl (Or.inl rfl) (pe_op o_add (pv 2) (pe_op o_mulA (pv 4) (pe_ix (ix_dict hr.units) (pv 1) (pv 3) (fun _ _ => rfl)))))))))
    (pss_stop (pss_one (ps_ret (pv 2))))))
theorem ok_AtMost_truth_AtMost (T : T0 P K mg) (n : Nat) (G_dyn_truth : DynF P w K mg base (4 * n) csT "truth" (sp_truth K n)) : FR P w K mg base (4 * n + 4) (He.fAd K ("AtMost", some "truth")) (sp_truth K (n + 1) "AtMost") := by
  obtain ⟨fd, F⟩ := T.F_AtMost_truth
  have G_Form_value := ok_Form_value (P := P) (w := w) (base := base) T
  have G_Formdd_initdd_2 := ok_Formdd_initdd_2 (P := P) (w := w) (base := base) T
  refine FnR.mono (mk_fn (k := 4 * n + 3) F sc_AtMost_truth (fun vs H Q E h => by
    revert h; intro h; (repeat (first | (obtain ⟨rfl, _⟩ := h; exact rfl) | obtain ⟨_, h⟩ := h))) (fun _ _ _ _ _ _ us hl => match us, hl with | [_, _], _ => rfl) (t := fun E => t_AtMost_truth K E n) (fun cdv A outer s H E hr => ?_) (fun vs H Q E h => pure_AtMost_truth n vs H Q E h)) (by omega)
  exact pss_cons (ps_set (i := 2) sc_AtMost_truth.nd rfl (Or.inl rfl) (pe_meth T.C_Form.sc T.M_Form_value G_Form_value (hr.mono (by omega)) passD (pe_giv T.C_Form (pe_mk T.K_Form G_Formdd_initdd_2 (hr.mono (by omega)) T.g_Form passD (pa_cons (pe_ct (c_dict rfl) T.n_dict (by decide +kernel) (pa_cons (pe_at (pv 0)) (pa_nil))) (pa_nil)))) (pa_cons (pv 1) (pa_nil))))
    (pss_stop (pss_cons (ps_if (pt_cmp o_isN (pv 2) (pe_non) (nomark _)) (pss_one (ps_ret (pe_non))) (pss_nil))
    (pss_stop (pss_one (ps_ret (pe_cmp o_le (pv 2) (pe_at (pv 0)) (nomark _)))))))
theorem ok_Present_truth_Present (T : T0 P K mg) (n : Nat) (G_dyn_truth : DynF P w K mg base (4 * n) csT "truth" (sp_truth K n)) : FR P w K mg base (4 * n + 4) (He.fAd K ("Present", some "truth")) (sp_truth K (n + 1) "Present") := by
  obtain ⟨fd, F⟩ := T.F_Present_truth
  refine FnR.mono (mk_fn (k := 4 * n + 3) F sc_Present_truth (fun vs H Q E h => by
    revert h; intro h; (repeat (first | (obtain ⟨rfl, _⟩ := h; exact rfl) | obtain ⟨_, h⟩ := h))) (fun _ _ _ _ _ _ us hl => match us, hl with | [_, _], _ => rfl) (t := fun E => t_Present_truth K E n) (fun cdv A outer s H E hr => ?_) (fun vs H Q E h => pure_Present_truth n vs H Q E h)) (by omega)
  exact pss_one (ps_ret (pe_cmp o_notN (pe_ix (ix_dict hr.units) (pv 1) (pe_at (pv 0)) (fun _ _ => rfl)) (pe_non) (nomark _)))
theorem ok_HasBit_truth_HasBit (T : T0 P K mg) (n : Nat) (G_dyn_truth : DynF P w K mg base (4 * n) csT "truth" (sp_truth K n)) : FR P w K mg base (4 * n + 4) (He.fAd K ("HasBit", some "truth")) (sp_truth K (n + 1) "HasBit") := by
  obtain ⟨fd, F⟩ := T.F_HasBit_truth
  refine FnR.mono (mk_fn (k := 4 * n + 3) F sc_HasBit_truth (fun vs H Q E h => by
    revert h; intro h; (repeat (first | (obtain ⟨rfl, _⟩ := h; exact rfl) | obtain ⟨_, h⟩ := h))) (fun _ _ _ _ _ _ us hl => match us, hl with | [_, _], _ => rfl) (t := fun E => t_HasBit_truth K E n) (fun cdv A outer s H E hr => ?_) (fun vs H Q E h => pure_HasBit_truth n vs H Q E h)) (by omega)
  exact pss_cons (ps_if (pt_cmp o_isN (pe_ix (ix_dict hr.units) (pv 1) (pe_at (pv 0)) (fun _ _ => rfl)) (pe_non) (nomark _)) (pss_one (ps_ret (pe_non))) (pss_nil))
    (pss_stop (pss_one (ps_ret (pe_cmp (o_eq hr.units) (pe_op o_and (pe_op o_shr (pe_ix (ix_dict hr.units) (pv 1) (pe_at (pv 0)) (fun _ _ => rfl)) (pe_at (pv 0))) (pe_int)) (pe_int) (nomark _)))))
theorem ok_Surely_truth_Surely (T : T0 P K mg) (n : Nat) (G_dyn_truth : DynF P w K mg base (4 * n) csT "truth" (sp_truth K n)) : FR P w K mg base (4 * n + 4) (He.fAd K ("Surely", some "truth")) (sp_truth K (n + 1) "Surely") := by
  obtain ⟨fd, F⟩ := T.F_Surely_truth
  refine FnR.mono (mk_fn (k := 4 * n + 3) F sc_Surely_truth (fun vs H Q E h => by
    revert h; intro h; (repeat (first | (obtain ⟨rfl, _⟩ := h; exact rfl) | obtain ⟨_, h⟩ := h))) (fun _ _ _ _ _ _ us hl => match us, hl with | [_, _], _ => rfl) (t := fun E => t_Surely_truth K E n) (fun cdv A outer s H E hr => ?_) (fun vs H Q E h => pure_Surely_truth n vs H Q E h)) (by omega)
  exact pss_one (ps_ret (pe_cmp o_isT (pe_dyn G_dyn_truth (hr.mono (by omega)) passD (pe_at (pv 0)) (pa_cons (pv 1) (pa_nil))) (pe_bl) (nomark _)))
theorem ok_rank_of (T : T0 P K mg) : FR P w K mg base 1 (He.fAd K ("rank_of", none)) (sp_rank_of K) := by
  obtain ⟨fd, F⟩ := T.F_rank_of
  refine mk_fn F sc_rank_of (fun vs H Q E h => by
    revert h; intro h; (repeat (first | (obtain ⟨rfl, _⟩ := h; exact rfl) | obtain ⟨_, h⟩ := h))) (fun _ _ _ _ _ _ us hl => match us, hl with | [_], _ => rfl) (t := t_rank_of K) (fun cdv A outer s H E hr => ?_) (fun vs H Q E h => pure_rank_of vs H Q E h)
  exact pss_cons (ps_if (pt_cmp o_isN (pv 0) (pe_non) (nomark _)) (pss_one (ps_ret (pe_int))) (pss_nil))
    (pss_stop (pss_cons (ps_if (pt_of (pv 0)) (pss_one (ps_ret (pe_int))) (pss_nil))
    (pss_stop (pss_one (ps_ret (pe_int))))))
theorem ok_opposite_truth (T : T0 P K mg) : FR P w K mg base 2 (He.fAd K ("opposite_truth", none)) (sp_opposite_truth K) := by
  obtain ⟨fd, F⟩ := T.F_opposite_truth
  have G_rank_of := ok_rank_of (P := P) (w := w) (base := base) T
  refine mk_fn F sc_opposite_truth (fun vs H Q E h => by
    revert h; intro h; (repeat (first | (obtain ⟨rfl, _⟩ := h; exact rfl) | obtain ⟨_, h⟩ := h))) (fun _ _ _ _ _ _ us hl => match us, hl with | [_], _ => rfl) (t := t_opposite_truth K) (fun cdv A outer s H E hr => ?_) (fun vs H Q E h => pure_opposite_truth vs H Q E h)
  exact pss_one (ps_ret (pe_ix ix_any (pe_giv T.U_RANKED (pe_glob (by rfl) T.g_RANKED rfl)) (pe_op o_sub (pe_int) (pe_call (G_rank_of) (hr.mono (by decide)) T.g_rank_of T.k_rank_of passD (pa_cons (pv 0) (pa_nil)))) (fun _ _ => rfl)))
theorem ok_Opposite_truth_Opposite (T : T0 P K mg) (n : Nat) (G_dyn_truth : DynF P w K mg base (4 * n) csT "truth" (sp_truth K n)) : FR P w K mg base (4 * n + 4) (He.fAd K ("Opposite", some "truth")) (sp_truth K (n + 1) "Opposite") := by
  obtain ⟨fd, F⟩ := T.F_Opposite_truth
  have G_opposite_truth := ok_opposite_truth (P := P) (w := w) (base := base) T
  refine FnR.mono (mk_fn (k := 4 * n + 3) F sc_Opposite_truth (fun vs H Q E h => by
    revert h; intro h; (repeat (first | (obtain ⟨rfl, _⟩ := h; exact rfl) | obtain ⟨_, h⟩ := h))) (fun _ _ _ _ _ _ us hl => match us, hl with | [_, _], _ => rfl) (t := fun E => t_Opposite_truth K E n) (fun cdv A outer s H E hr => ?_) (fun vs H Q E h => pure_Opposite_truth n vs H Q E h)) (by omega)
  exact pss_one (ps_ret (pe_call (G_opposite_truth) (hr.mono (by omega)) T.g_opposite_truth T.k_opposite_truth passD (pa_cons (pe_dyn G_dyn_truth (hr.mono (by omega)) passD (pe_at (pv 0)) (pa_cons (pv 1) (pa_nil))) (pa_nil))))
theorem ok_either_truths (T : T0 P K mg) : FR P w K mg base 2 (He.fAd K ("either_truths", none)) (sp_either_truths K) := by
  obtain ⟨fd, F⟩ := T.F_either_truths
  have G_rank_of := ok_rank_of (P := P) (w := w) (base := base) T
  refine mk_fn F sc_either_truths (fun vs H Q E h => by
    revert h; intro h; (repeat (first | (obtain ⟨rfl, _⟩ := h; exact rfl) | obtain ⟨_, h⟩ := h))) (fun _ _ _ _ _ _ us hl => match us, hl with | [_, _], _ => rfl) (t := t_either_truths K) (fun cdv A outer s H E hr => ?_) (fun vs H Q E h => pure_either_truths vs H Q E h)
  exact pss_one (ps_ret (pe_ix ix_any (pe_giv T.U_RANKED (pe_glob (by rfl) T.g_RANKED rfl)) (pe_cb (c_max2 rfl) T.n_max (by decide +kernel) (pa_cons (pe_call (G_rank_of) (hr.mono (by decide)) T.g_rank_of T.k_rank_of passD (pa_cons (pv 0) (pa_nil))) (pa_cons (pe_call (G_rank_of) (hr.mono (by decide)) T.g_rank_of T.k_rank_of passD (pa_cons (pv 1) (pa_nil))) (pa_nil)))) (fun _ _ => rfl)))
theorem ok_Either_truth_Either (T : T0 P K mg) (n : Nat) (G_dyn_truth : DynF P w K mg base (4 * n) csT "truth" (sp_truth K n)) : FR P w K mg base (4 * n + 4) (He.fAd K ("Either", some "truth")) (sp_truth K (n + 1) "Either") := by
  obtain ⟨fd, F⟩ := T.F_Either_truth
  have G_either_truths := ok_either_truths (P := P) (w := w) (base := base) T
  refine FnR.mono (mk_fn (k := 4 * n + 3) F sc_Either_truth (fun vs H Q E h => by
    revert h; intro h; (repeat (first | (obtain ⟨rfl, _⟩ := h; exact rfl) | obtain ⟨_, h⟩ := h))) (fun _ _ _ _ _ _ us hl => match us, hl with | [_, _], _ => rfl) (t := fun E => t_Either_truth K E n) (fun cdv A outer s H E hr => ?_) (fun vs H Q E h => pure_Either_truth n vs H Q E h)) (by omega)
  exact pss_one (ps_ret (pe_call (G_either_truths) (hr.mono (by omega)) T.g_either_truths T.k_either_truths passD (pa_cons (pe_dyn G_dyn_truth (hr.mono (by omega)) passD (pe_at (pv 0)) (pa_cons (pv 1) (pa_nil))) (pa_cons (pe_dyn G_dyn_truth (hr.mono (by omega)) passD (pe_at (pv 0)) (pa_cons (pv 1) (pa_nil))) (pa_nil)))))
theorem ok_both_truths (T : T0 P K mg) : FR P w K mg base 2 (He.fAd K ("both_truths", none)) (sp_both_truths K) := by
  obtain ⟨fd, F⟩ := T.F_both_truths
  have G_rank_of := ok_rank_of (P := P) (w := w) (base := base) T
  refine mk_fn F sc_both_truths (fun vs H Q E h => by
    revert h; intro h; (repeat (first | (obtain ⟨rfl, _⟩ := h; exact rfl) | obtain ⟨_, h⟩ := h))) (fun _ _ _ _ _ _ us hl => match us, hl with | [_, _], _ => rfl) (t := t_both_truths K) (fun cdv A outer s H E hr => ?_) (fun vs H Q E h => pure_both_truths vs H Q E h)
  exact pss_one (ps_ret (pe_ix ix_any (pe_giv T.U_RANKED (pe_glob (by rfl) T.g_RANKED rfl)) (pe_cb (c_min2 rfl) T.n_min (by decide +kernel) (pa_cons (pe_call (G_rank_of) (hr.mono (by decide)) T.g_rank_of T.k_rank_of passD (pa_cons (pv 0) (pa_nil))) (pa_cons (pe_call (G_rank_of) (hr.mono (by decide)) T.g_rank_of T.k_rank_of passD (pa_cons (pv 1) (pa_nil))) (pa_nil)))) (fun _ _ => rfl)))
theorem ok_Both_truth_Both (T : T0 P K mg) (n : Nat) (G_dyn_truth : DynF P w K mg base (4 * n) csT "truth" (sp_truth K n)) : FR P w K mg base (4 * n + 4) (He.fAd K ("Both", some "truth")) (sp_truth K (n + 1) "Both") := by
  obtain ⟨fd, F⟩ := T.F_Both_truth
  have G_both_truths := ok_both_truths (P := P) (w := w) (base := base) T
  refine FnR.mono (mk_fn (k := 4 * n + 3) F sc_Both_truth (fun vs H Q E h => by
    revert h; intro h; (repeat (first | (obtain ⟨rfl, _⟩ := h; exact rfl) | obtain ⟨_, h⟩ := h))) (fun _ _ _ _ _ _ us hl => match us, hl with | [_, _], _ => rfl) (t := fun E => t_Both_truth K E n) (fun cdv A outer s H E hr => ?_) (fun vs H Q E h => pure_Both_truth n vs H Q E h)) (by omega)
  exact pss_one (ps_ret (pe_call (G_both_truths) (hr.mono (by omega)) T.g_both_truths T.k_both_truths passD (pa_cons (pe_dyn G_dyn_truth (hr.mono (by omega)) passD (pe_at (pv 0)) (pa_cons (pv 1) (pa_nil))) (pa_cons (pe_dyn G_dyn_truth (hr.mono (by omega)) passD (pe_at (pv 0)) (pa_cons (pv 1) (pa_nil))) (pa_nil)))))
theorem ok_dyn_truth (T : T0 P K mg) : ∀ n, DynF P w K mg base (4 * n) csT "truth" (sp_truth K n)
  | 0 => by
    intro c hc
    simp only [csT, List.mem_cons, List.not_mem_nil, or_false] at hc
    rcases hc with rfl | rfl | rfl | rfl | rfl | rfl | rfl
    · exact ⟨T.D_AtMost.cl, _, T.M_AtMost_truth, FR.none (sp_truth_0 _)⟩
    · exact ⟨T.D_Present.cl, _, T.M_Present_truth, FR.none (sp_truth_0 _)⟩
    · exact ⟨T.D_HasBit.cl, _, T.M_HasBit_truth, FR.none (sp_truth_0 _)⟩
    · exact ⟨T.D_Both.cl, _, T.M_Both_truth, FR.none (sp_truth_0 _)⟩
    · exact ⟨T.D_Either.cl, _, T.M_Either_truth, FR.none (sp_truth_0 _)⟩
    · exact ⟨T.D_Opposite.cl, _, T.M_Opposite_truth, FR.none (sp_truth_0 _)⟩
    · exact ⟨T.D_Surely.cl, _, T.M_Surely_truth, FR.none (sp_truth_0 _)⟩
  | n + 1 => by
    have ih := ok_dyn_truth T n
    intro c hc
    simp only [csT, List.mem_cons, List.not_mem_nil, or_false] at hc
    rcases hc with rfl | rfl | rfl | rfl | rfl | rfl | rfl
    · exact ⟨T.D_AtMost.cl, _, T.M_AtMost_truth, FnR.mono (ok_AtMost_truth_AtMost T n ih) (by omega)⟩
    · exact ⟨T.D_Present.cl, _, T.M_Present_truth, FnR.mono (ok_Present_truth_Present T n ih) (by omega)⟩
    · exact ⟨T.D_HasBit.cl, _, T.M_HasBit_truth, FnR.mono (ok_HasBit_truth_HasBit T n ih) (by omega)⟩
    · exact ⟨T.D_Both.cl, _, T.M_Both_truth, FnR.mono (ok_Both_truth_Both T n ih) (by omega)⟩
    · exact ⟨T.D_Either.cl, _, T.M_Either_truth, FnR.mono (ok_Either_truth_Either T n ih) (by omega)⟩
    · exact ⟨T.D_Opposite.cl, _, T.M_Opposite_truth, FnR.mono (ok_Opposite_truth_Opposite T n ih) (by omega)⟩
    · exact ⟨T.D_Surely.cl, _, T.M_Surely_truth, FnR.mono (ok_Surely_truth_Surely T n ih) (by omega)⟩
theorem ok__law_same (T : T0 P K mg) : FR P w K mg base 1 (He.fAd K ("_law_same", none)) (sp__law_same K) := by
  obtain ⟨fd, F⟩ := T.F__law_same
  refine mk_fn F sc__law_same (fun vs H Q E h => by
    revert h; intro h; (repeat (first | (obtain ⟨rfl, _⟩ := h; exact rfl) | obtain ⟨_, h⟩ := h))) (fun _ _ _ _ _ _ us hl => match us, hl with | [_, _], _ => rfl) (t := t__law_same K) (fun cdv A outer s H E hr => ?_) (fun vs H Q E h => pure__law_same vs H Q E h)
  exact pss_cons (ps_if (pt_cmp o_isT (pv 1) (pe_bl) (nomark _)) (pss_one (ps_ret (pe_cmp o_isT (pv 0) (pe_bl) (nomark _)))) (pss_nil))
    (pss_stop (pss_cons (ps_if (pt_cmp o_isT (pv 1) (pe_bl) (nomark _)) (pss_one (ps_ret (pe_cmp o_isT (pv 0) (pe_bl) (nomark _)))) (pss_nil))
    (pss_stop (pss_one (ps_ret (pe_cmp o_isN (pv 0) (pe_non) (nomark _)))))))
theorem ok_law (T : T0 P K mg) {fd : FuncData} (F : FunD K "law" "law" (defArgs s_law) (defBody s_law) (defScope s_law) [] [] (He.fAd K ("law", none)) fd) : FnOk P w K mg base CX0 56 (He.fAd K ("law", none)) fd ["_law_script"] (sp_law K) := by
  have G__law_draw := ok__law_draw (P := P) (w := w) (base := base) T
  have G__law_names := ok__law_names (P := P) (w := w) (base := base) T
  have G__law_question := ok__law_question (P := P) (w := w) (base := base) T
  have G__law_recipe := ok__law_recipe (P := P) (w := w) (base := base) T
  have G__law_same := ok__law_same (P := P) (w := w) (base := base) T
  have G__law_truth := ok__law_truth (P := P) (w := w) (base := base) T
  have G__law_value := ok__law_value (P := P) (w := w) (base := base) T
  have G_dyn_truth := ok_dyn_truth (P := P) (w := w) (base := base) T nT
  refine mk_law F sc_law (fun vs H Q E h => by
    revert h; intro h; (repeat (first | (obtain ⟨rfl, _⟩ := h; exact rfl) | obtain ⟨_, h⟩ := h))) (t := t_law K) (fun cdv A outer s H E hr => ?_) (fun vs H Q E h => pure_law vs H Q E0 h)
  exact pss_cons (ps_set (i := 1) sc_law.nd rfl (Or.inl rfl) (pe_lst (pa_cons (pe_int) (pa_cons (pe_int) (pa_cons (pe_int) (pa_cons (pe_int) (pa_nil)))))))
    (pss_stop (pss_cons (ps_set (i := 2) sc_law.nd rfl (Or.inl rfl) (pe_lst (pa_nil)))
    (pss_stop (pss_cons (ps_for PassesOwn.never rfl (pi_seq (pe_call (G__law_names) (hr.mono (by decide)) T.g__law_names T.k__law_names passL0 (pa_cons (pv 0) (pa_cons (pv 1) (pa_cons (pe_op o_add (pe_int) (pe_call (G__law_draw) (hr.mono (by decide)) T.g__law_draw T.k__law_draw passL0 (pa_cons (pv 0) (pa_cons (pv 1) (pa_cons (pe_int) (pa_nil)))))) (pa_nil)))))) (pg_name (i := 3) sc_law.nd rfl (Or.inl rfl)) (pss_one (ps_expr (pe_ml PySem.F.slot_list_append PySem.F.type_list_append m_app (pv 2) (pa_cons (pe_tup (pa_cons (pv 3) (pa_cons (pe_ix (ix_dict hr.units) (pe_lst (pa_cons (pe_int) (pa_cons (pe_int) (pa_cons (pe_int) (pa_cons (pe_int) (pa_nil)))))) (pe_call (G__law_draw) (hr.mono (by decide)) T.g__law_draw T.k__law_draw passL0 (pa_cons (pv 0) (pa_cons (pv 1) (pa_cons (pe_int) (pa_nil))))) (fun _ _ => rfl)) (pa_nil)))) (pa_nil))))))
    (pss_stop (pss_cons (ps_set (i := 4) sc_law.nd rfl (Or.inl rfl) (pe_call (G__law_recipe) (hr.mono (by decide)) T.g__law_recipe T.k__law_recipe passL0 (pa_cons (pv 0) (pa_cons (pv 1) (pa_cons (pv 2) (pa_cons (pe_int) (pa_nil)))))))
    (pss_stop (pss_cons (ps_set (i := 5) sc_law.nd rfl (Or.inl rfl) (pe_call (G__law_question) (hr.mono (by decide)) T.g__law_question T.k__law_question passL0 (pa_cons (pv 4) (pa_nil))))
    (pss_stop (pss_cons (ps_set (i := 6) sc_law.nd rfl (Or.inl rfl) (pe_lst (pa_nil)))
    (pss_stop (pss_cons (ps_for PassesOwn.never rfl (pi_rng (by rfl) T.n_range (pa_cons (pe_op o_add (pe_int) (pe_call (G__law_draw) (hr.mono (by decide)) T.g__law_draw T.k__law_draw passL0 (pa_cons (pv 0) (pa_cons (pv 1) (pa_cons (pe_int) (pa_nil)))))) (pa_nil))) (pg_name (i := 7) sc_law.nd rfl (Or.inl rfl)) (pss_cons (ps_set (i := 8) sc_law.nd rfl (Or.inl rfl) (pe_newK))
    (pss_stop (pss_cons (ps_for PassesOwn.never rfl (pi_seq (pv 2)) (pg_name (i := 9) sc_law.nd rfl (Or.inl rfl)) (pss_one (ps_asg (pe_call (G__law_value) (hr.mono (by decide)) T.g__law_value T.k__law_value passL0 (pa_cons (pv 0) (pa_cons (pv 1) (pa_cons (pe_ix (ix_dict hr.units) (pv 9) (pe_int) (fun _ _ => rfl)) (pa_nil))))) (pg_sub (pv 8) (pe_ix (ix_dict hr.units) (pv 9) (pe_int) (fun _ _ => rfl)) (s_dict hr.units)))))
    (pss_stop (pss_one (ps_expr (pe_ml PySem.F.slot_list_append PySem.F.type_list_append m_app (pv 6) (pa_cons (pv 8) (pa_nil))))))))))
    (pss_stop (pss_cons (ps_for PassesOwn.never rfl (pi_seq (pe_op o_add (pv 6) (pe_lst (pa_cons (pe_ix (ix_dict hr.units) (pv 6) (pe_int) (fun _ _ => rfl)) (pa_nil))))) (pg_name (i := 8) sc_law.nd rfl (Or.inl rfl)) (pss_cons (ps_set (i := 10) sc_law.nd rfl (Or.inl rfl) (pe_newK))
    (pss_stop (pss_cons (ps_for PassesOwn.never rfl (pi_seq (pv 2)) (pg_name (i := 9) sc_law.nd rfl (Or.inl rfl)) (pss_one (ps_asg (pe_ix (ix_dict hr.units) (pv 8) (pe_ix (ix_dict hr.units) (pv 9) (pe_int) (fun _ _ => rfl)) (fun _ _ => rfl)) (pg_sub (pv 10) (pe_ix (ix_dict hr.units) (pv 9) (pe_int) (fun _ _ => rfl)) (s_dict hr.units)))))
    (pss_stop (pss_cons (ps_if (pt_not (pt_of (pe_call (G__law_same) (hr.mono (by decide)) T.g__law_same T.k__law_same passL0 (pa_cons (pe_dyn G_dyn_truth (hr.mono (by decide)) passL0 (pv 5) (pa_cons (pv 10) (pa_nil))) (pa_cons (pe_call (G__law_truth) (hr.mono (by decide)) T.g__law_truth T.k__law_truth passL0 (pa_cons (pv 4) (pa_cons (pv 8) (pa_nil)))) (pa_nil)))))) (pss_one (ps_ret (pe_bl))) (pss_nil))
    (pss_stop (pss_one (ps_if (pt_cmp (op_neDc hr.units) (pv 10) (pv 8) (nomark _)) (pss_one (ps_ret (pe_bl))) (pss_nil))))))))))
    (pss_stop (pss_one (ps_ret (pe_bl))))))))))))))))))
end
theorem hfacts {w : World} {K : Frag} {h : Heap} {mg : Str → Option Value} {f : Addr} (X : K.In h) (G : h.Ns mainGlobals mg) (hla : mg ("law" : Str) = some (.ref f)) (c : SaysX hfa hfx hfn K) :
    ∃ fd : FuncData, (∀ (s : Shared) (v : Value), BindsTo s fd ⟨[v], []⟩ [("_law_script", v)]) ∧ ∀ base : Heap, K.In base → base.Ns mainGlobals mg → FnOk hP w K mg base CX0 56 f fd ["_law_script"] (sp_law K) := by
  have g_AtMost := He.glo_ok X G (c.fact 0 (f := .glo "AtMost") rfl)
  have g_Both := He.glo_ok X G (c.fact 1 (f := .glo "Both") rfl)
  have g_Either := He.glo_ok X G (c.fact 2 (f := .glo "Either") rfl)
  have g_Form := He.glo_ok X G (c.fact 3 (f := .glo "Form") rfl)
  have g_HasBit := He.glo_ok X G (c.fact 4 (f := .glo "HasBit") rfl)
  have g_Opposite := He.glo_ok X G (c.fact 5 (f := .glo "Opposite") rfl)
  have g_Present := He.glo_ok X G (c.fact 6 (f := .glo "Present") rfl)
  have g_RANKED := He.glo_ok X G (c.fact 7 (f := .glo "RANKED") rfl)
  have g_Surely := He.glo_ok X G (c.fact 8 (f := .glo "Surely") rfl)
  have g__law_draw := He.glo_ok X G (c.fact 9 (f := .glo "_law_draw") rfl)
  have g__law_leaf := He.glo_ok X G (c.fact 10 (f := .glo "_law_leaf") rfl)
  have g__law_leaf_truth := He.glo_ok X G (c.fact 11 (f := .glo "_law_leaf_truth") rfl)
  have g__law_names := He.glo_ok X G (c.fact 12 (f := .glo "_law_names") rfl)
  have g__law_number := He.glo_ok X G (c.fact 13 (f := .glo "_law_number") rfl)
  have g__law_question := He.glo_ok X G (c.fact 14 (f := .glo "_law_question") rfl)
  have g__law_recipe := He.glo_ok X G (c.fact 15 (f := .glo "_law_recipe") rfl)
  have g__law_same := He.glo_ok X G (c.fact 16 (f := .glo "_law_same") rfl)
  have g__law_truth := He.glo_ok X G (c.fact 17 (f := .glo "_law_truth") rfl)
  have g__law_value := He.glo_ok X G (c.fact 18 (f := .glo "_law_value") rfl)
  have g__law_wide := He.glo_ok X G (c.fact 19 (f := .glo "_law_wide") rfl)
  have g_both_truths := He.glo_ok X G (c.fact 20 (f := .glo "both_truths") rfl)
  have g_either_truths := He.glo_ok X G (c.fact 21 (f := .glo "either_truths") rfl)
  have g_law := He.glo_ok X G (c.fact 22 (f := .glo "law") rfl)
  have g_opposite_truth := He.glo_ok X G (c.fact 23 (f := .glo "opposite_truth") rfl)
  have g_rank_of := He.glo_ok X G (c.fact 24 (f := .glo "rank_of") rfl)
  have n_abs := He.free_ok X G (c.fact 25 (f := .free "abs") rfl)
  have n_dict := He.free_ok X G (c.fact 26 (f := .free "dict") rfl)
  have n_int := He.free_ok X G (c.fact 27 (f := .free "int") rfl)
  have n_len := He.free_ok X G (c.fact 28 (f := .free "len") rfl)
  have n_max := He.free_ok X G (c.fact 29 (f := .free "max") rfl)
  have n_min := He.free_ok X G (c.fact 30 (f := .free "min") rfl)
  have n_range := He.free_ok X G (c.fact 31 (f := .free "range") rfl)
  have n_sorted := He.free_ok X G (c.fact 32 (f := .free "sorted") rfl)
  have n_sum := He.free_ok X G (c.fact 33 (f := .free "sum") rfl)
  have n_super := He.free_ok X G (c.fact 34 (f := .free "super") rfl)
  have n_tuple := He.free_ok X G (c.fact 35 (f := .free "tuple") rfl)
  have K_AtMost : Mk K (He.ga K "AtMost") (He.fAd K ("AtMost", some "__init__")) := He.mkr_ok (c.fact 36 (f := .mkr "AtMost") rfl)
  have K_Both : Mk K (He.ga K "Both") (He.fAd K ("Both", some "__init__")) := He.mkr_ok (c.fact 37 (f := .mkr "Both") rfl)
  have K_Either : Mk K (He.ga K "Either") (He.fAd K ("Either", some "__init__")) := He.mkr_ok (c.fact 38 (f := .mkr "Either") rfl)
  have K_Form : Mk K (He.ga K "Form") (He.fAd K ("Form", some "__init__")) := He.mkr_ok (c.fact 39 (f := .mkr "Form") rfl)
  have K_HasBit : Mk K (He.ga K "HasBit") (He.fAd K ("HasBit", some "__init__")) := He.mkr_ok (c.fact 40 (f := .mkr "HasBit") rfl)
  have K_Opposite : Mk K (He.ga K "Opposite") (He.fAd K ("Opposite", some "__init__")) := He.mkr_ok (c.fact 41 (f := .mkr "Opposite") rfl)
  have K_Present : Mk K (He.ga K "Present") (He.fAd K ("Present", some "__init__")) := He.mkr_ok (c.fact 42 (f := .mkr "Present") rfl)
  have K_Surely : Mk K (He.ga K "Surely") (He.fAd K ("Surely", some "__init__")) := He.mkr_ok (c.fact 43 (f := .mkr "Surely") rfl)
  have M_AtMost_ddanddd : Meth K (He.ga K "AtMost") "__and__" (He.fAd K ("AtMost", some "__and__")) := He.meth_ok (c.fact 44 (f := .meth "AtMost" "__and__") rfl)
  have M_AtMost_ddinvertdd : Meth K (He.ga K "AtMost") "__invert__" (He.fAd K ("AtMost", some "__invert__")) := He.meth_ok (c.fact 45 (f := .meth "AtMost" "__invert__") rfl)
  have M_AtMost_ddordd : Meth K (He.ga K "AtMost") "__or__" (He.fAd K ("AtMost", some "__or__")) := He.meth_ok (c.fact 46 (f := .meth "AtMost" "__or__") rfl)
  have M_AtMost_surely : Meth K (He.ga K "AtMost") "surely" (He.fAd K ("AtMost", some "surely")) := He.meth_ok (c.fact 47 (f := .meth "AtMost" "surely") rfl)
  have M_AtMost_truth : Meth K (He.ga K "AtMost") "truth" (He.fAd K ("AtMost", some "truth")) := He.meth_ok (c.fact 48 (f := .meth "AtMost" "truth") rfl)
  have M_Both_ddanddd : Meth K (He.ga K "Both") "__and__" (He.fAd K ("Both", some "__and__")) := He.meth_ok (c.fact 49 (f := .meth "Both" "__and__") rfl)
  have M_Both_ddinvertdd : Meth K (He.ga K "Both") "__invert__" (He.fAd K ("Both", some "__invert__")) := He.meth_ok (c.fact 50 (f := .meth "Both" "__invert__") rfl)
  have M_Both_ddordd : Meth K (He.ga K "Both") "__or__" (He.fAd K ("Both", some "__or__")) := He.meth_ok (c.fact 51 (f := .meth "Both" "__or__") rfl)
  have M_Both_surely : Meth K (He.ga K "Both") "surely" (He.fAd K ("Both", some "surely")) := He.meth_ok (c.fact 52 (f := .meth "Both" "surely") rfl)
  have M_Both_truth : Meth K (He.ga K "Both") "truth" (He.fAd K ("Both", some "truth")) := He.meth_ok (c.fact 53 (f := .meth "Both" "truth") rfl)
  have M_Either_ddanddd : Meth K (He.ga K "Either") "__and__" (He.fAd K ("Either", some "__and__")) := He.meth_ok (c.fact 54 (f := .meth "Either" "__and__") rfl)
  have M_Either_ddinvertdd : Meth K (He.ga K "Either") "__invert__" (He.fAd K ("Either", some "__invert__")) := He.meth_ok (c.fact 55 (f := .meth "Either" "__invert__") rfl)
  have M_Either_ddordd : Meth K (He.ga K "Either") "__or__" (He.fAd K ("Either", some "__or__")) := He.meth_ok (c.fact 56 (f := .meth "Either" "__or__") rfl)
  have M_Either_surely : Meth K (He.ga K "Either") "surely" (He.fAd K ("Either", some "surely")) := He.meth_ok (c.fact 57 (f := .meth "Either" "surely") rfl)
  have M_Either_truth : Meth K (He.ga K "Either") "truth" (He.fAd K ("Either", some "truth")) := He.meth_ok (c.fact 58 (f := .meth "Either" "truth") rfl)
  have M_Form_value : Meth K (He.ga K "Form") "value" (He.fAd K ("Form", some "value")) := He.meth_ok (c.fact 59 (f := .meth "Form" "value") rfl)
  have M_HasBit_ddanddd : Meth K (He.ga K "HasBit") "__and__" (He.fAd K ("HasBit", some "__and__")) := He.meth_ok (c.fact 60 (f := .meth "HasBit" "__and__") rfl)
  have M_HasBit_ddinvertdd : Meth K (He.ga K "HasBit") "__invert__" (He.fAd K ("HasBit", some "__invert__")) := He.meth_ok (c.fact 61 (f := .meth "HasBit" "__invert__") rfl)
  have M_HasBit_ddordd : Meth K (He.ga K "HasBit") "__or__" (He.fAd K ("HasBit", some "__or__")) := He.meth_ok (c.fact 62 (f := .meth "HasBit" "__or__") rfl)
  have M_HasBit_surely : Meth K (He.ga K "HasBit") "surely" (He.fAd K ("HasBit", some "surely")) := He.meth_ok (c.fact 63 (f := .meth "HasBit" "surely") rfl)
  have M_HasBit_truth : Meth K (He.ga K "HasBit") "truth" (He.fAd K ("HasBit", some "truth")) := He.meth_ok (c.fact 64 (f := .meth "HasBit" "truth") rfl)
  have M_Opposite_ddanddd : Meth K (He.ga K "Opposite") "__and__" (He.fAd K ("Opposite", some "__and__")) := He.meth_ok (c.fact 65 (f := .meth "Opposite" "__and__") rfl)
  have M_Opposite_ddinvertdd : Meth K (He.ga K "Opposite") "__invert__" (He.fAd K ("Opposite", some "__invert__")) := He.meth_ok (c.fact 66 (f := .meth "Opposite" "__invert__") rfl)
  have M_Opposite_ddordd : Meth K (He.ga K "Opposite") "__or__" (He.fAd K ("Opposite", some "__or__")) := He.meth_ok (c.fact 67 (f := .meth "Opposite" "__or__") rfl)
  have M_Opposite_surely : Meth K (He.ga K "Opposite") "surely" (He.fAd K ("Opposite", some "surely")) := He.meth_ok (c.fact 68 (f := .meth "Opposite" "surely") rfl)
  have M_Opposite_truth : Meth K (He.ga K "Opposite") "truth" (He.fAd K ("Opposite", some "truth")) := He.meth_ok (c.fact 69 (f := .meth "Opposite" "truth") rfl)
  have M_Present_ddanddd : Meth K (He.ga K "Present") "__and__" (He.fAd K ("Present", some "__and__")) := He.meth_ok (c.fact 70 (f := .meth "Present" "__and__") rfl)
  have M_Present_ddinvertdd : Meth K (He.ga K "Present") "__invert__" (He.fAd K ("Present", some "__invert__")) := He.meth_ok (c.fact 71 (f := .meth "Present" "__invert__") rfl)
  have M_Present_ddordd : Meth K (He.ga K "Present") "__or__" (He.fAd K ("Present", some "__or__")) := He.meth_ok (c.fact 72 (f := .meth "Present" "__or__") rfl)
  have M_Present_surely : Meth K (He.ga K "Present") "surely" (He.fAd K ("Present", some "surely")) := He.meth_ok (c.fact 73 (f := .meth "Present" "surely") rfl)
  have M_Present_truth : Meth K (He.ga K "Present") "truth" (He.fAd K ("Present", some "truth")) := He.meth_ok (c.fact 74 (f := .meth "Present" "truth") rfl)
  have M_Surely_ddanddd : Meth K (He.ga K "Surely") "__and__" (He.fAd K ("Surely", some "__and__")) := He.meth_ok (c.fact 75 (f := .meth "Surely" "__and__") rfl)
  have M_Surely_ddinvertdd : Meth K (He.ga K "Surely") "__invert__" (He.fAd K ("Surely", some "__invert__")) := He.meth_ok (c.fact 76 (f := .meth "Surely" "__invert__") rfl)
  have M_Surely_ddordd : Meth K (He.ga K "Surely") "__or__" (He.fAd K ("Surely", some "__or__")) := He.meth_ok (c.fact 77 (f := .meth "Surely" "__or__") rfl)
  have M_Surely_surely : Meth K (He.ga K "Surely") "surely" (He.fAd K ("Surely", some "surely")) := He.meth_ok (c.fact 78 (f := .meth "Surely" "surely") rfl)
  have M_Surely_truth : Meth K (He.ga K "Surely") "truth" (He.fAd K ("Surely", some "truth")) := He.meth_ok (c.fact 79 (f := .meth "Surely" "truth") rfl)
  have C_Form : CF K "Form" ["offset", "terms"] := cfB_ok (c.more 0 (f := cfB "Form" ["offset", "terms"]) rfl)
  have D_AtMost : DF K "AtMost" ["Question"] ["parts", "terms", "bound"] := dfB_ok (c.more 1 (f := dfB "AtMost" ["Question"] ["parts", "terms", "bound"]) rfl)
  have D_Both : DF K "Both" ["Question"] ["parts", "one", "other"] := dfB_ok (c.more 2 (f := dfB "Both" ["Question"] ["parts", "one", "other"]) rfl)
  have D_Either : DF K "Either" ["Question"] ["parts", "one", "other"] := dfB_ok (c.more 3 (f := dfB "Either" ["Question"] ["parts", "one", "other"]) rfl)
  have D_HasBit : DF K "HasBit" ["Question"] ["parts", "name", "place"] := dfB_ok (c.more 4 (f := dfB "HasBit" ["Question"] ["parts", "name", "place"]) rfl)
  have D_Opposite : DF K "Opposite" ["Question"] ["parts", "part"] := dfB_ok (c.more 5 (f := dfB "Opposite" ["Question"] ["parts", "part"]) rfl)
  have D_Present : DF K "Present" ["Question"] ["parts", "name"] := dfB_ok (c.more 6 (f := dfB "Present" ["Question"] ["parts", "name"]) rfl)
  have D_Surely : DF K "Surely" ["Question"] ["parts", "part"] := dfB_ok (c.more 7 (f := dfB "Surely" ["Question"] ["parts", "part"]) rfl)
  have NF_and : NfF K csT "and" := nfB_ok (c.more 8 (f := nfB csT "and") rfl)
  have NF_or : NfF K csT "or" := nfB_ok (c.more 9 (f := nfB csT "or") rfl)
  have Q_AtMost_ddanddd : He.fAd K ("AtMost", some "__and__") = He.fAd K ("Question", some "__and__") := of_decide_eq_true (c.more 10 (f := fun K => decide (He.fAd K ("AtMost", some "__and__") = He.fAd K ("Question", some "__and__"))) rfl)
  have Q_AtMost_ddinvertdd : He.fAd K ("AtMost", some "__invert__") = He.fAd K ("Question", some "__invert__") := of_decide_eq_true (c.more 11 (f := fun K => decide (He.fAd K ("AtMost", some "__invert__") = He.fAd K ("Question", some "__invert__"))) rfl)
  have Q_AtMost_ddordd : He.fAd K ("AtMost", some "__or__") = He.fAd K ("Question", some "__or__") := of_decide_eq_true (c.more 12 (f := fun K => decide (He.fAd K ("AtMost", some "__or__") = He.fAd K ("Question", some "__or__"))) rfl)
  have Q_AtMost_surely : He.fAd K ("AtMost", some "surely") = He.fAd K ("Question", some "surely") := of_decide_eq_true (c.more 13 (f := fun K => decide (He.fAd K ("AtMost", some "surely") = He.fAd K ("Question", some "surely"))) rfl)
  have Q_Both_ddanddd : He.fAd K ("Both", some "__and__") = He.fAd K ("Question", some "__and__") := of_decide_eq_true (c.more 14 (f := fun K => decide (He.fAd K ("Both", some "__and__") = He.fAd K ("Question", some "__and__"))) rfl)
  have Q_Both_ddinvertdd : He.fAd K ("Both", some "__invert__") = He.fAd K ("Question", some "__invert__") := of_decide_eq_true (c.more 15 (f := fun K => decide (He.fAd K ("Both", some "__invert__") = He.fAd K ("Question", some "__invert__"))) rfl)
  have Q_Both_ddordd : He.fAd K ("Both", some "__or__") = He.fAd K ("Question", some "__or__") := of_decide_eq_true (c.more 16 (f := fun K => decide (He.fAd K ("Both", some "__or__") = He.fAd K ("Question", some "__or__"))) rfl)
  have Q_Both_surely : He.fAd K ("Both", some "surely") = He.fAd K ("Question", some "surely") := of_decide_eq_true (c.more 17 (f := fun K => decide (He.fAd K ("Both", some "surely") = He.fAd K ("Question", some "surely"))) rfl)
  have Q_Either_ddanddd : He.fAd K ("Either", some "__and__") = He.fAd K ("Question", some "__and__") := of_decide_eq_true (c.more 18 (f := fun K => decide (He.fAd K ("Either", some "__and__") = He.fAd K ("Question", some "__and__"))) rfl)
  have Q_Either_ddinvertdd : He.fAd K ("Either", some "__invert__") = He.fAd K ("Question", some "__invert__") := of_decide_eq_true (c.more 19 (f := fun K => decide (He.fAd K ("Either", some "__invert__") = He.fAd K ("Question", some "__invert__"))) rfl)
  have Q_Either_ddordd : He.fAd K ("Either", some "__or__") = He.fAd K ("Question", some "__or__") := of_decide_eq_true (c.more 20 (f := fun K => decide (He.fAd K ("Either", some "__or__") = He.fAd K ("Question", some "__or__"))) rfl)
  have Q_Either_surely : He.fAd K ("Either", some "surely") = He.fAd K ("Question", some "surely") := of_decide_eq_true (c.more 21 (f := fun K => decide (He.fAd K ("Either", some "surely") = He.fAd K ("Question", some "surely"))) rfl)
  have Q_HasBit_ddanddd : He.fAd K ("HasBit", some "__and__") = He.fAd K ("Question", some "__and__") := of_decide_eq_true (c.more 22 (f := fun K => decide (He.fAd K ("HasBit", some "__and__") = He.fAd K ("Question", some "__and__"))) rfl)
  have Q_HasBit_ddinvertdd : He.fAd K ("HasBit", some "__invert__") = He.fAd K ("Question", some "__invert__") := of_decide_eq_true (c.more 23 (f := fun K => decide (He.fAd K ("HasBit", some "__invert__") = He.fAd K ("Question", some "__invert__"))) rfl)
  have Q_HasBit_ddordd : He.fAd K ("HasBit", some "__or__") = He.fAd K ("Question", some "__or__") := of_decide_eq_true (c.more 24 (f := fun K => decide (He.fAd K ("HasBit", some "__or__") = He.fAd K ("Question", some "__or__"))) rfl)
  have Q_HasBit_surely : He.fAd K ("HasBit", some "surely") = He.fAd K ("Question", some "surely") := of_decide_eq_true (c.more 25 (f := fun K => decide (He.fAd K ("HasBit", some "surely") = He.fAd K ("Question", some "surely"))) rfl)
  have Q_Opposite_ddanddd : He.fAd K ("Opposite", some "__and__") = He.fAd K ("Question", some "__and__") := of_decide_eq_true (c.more 26 (f := fun K => decide (He.fAd K ("Opposite", some "__and__") = He.fAd K ("Question", some "__and__"))) rfl)
  have Q_Opposite_ddinvertdd : He.fAd K ("Opposite", some "__invert__") = He.fAd K ("Question", some "__invert__") := of_decide_eq_true (c.more 27 (f := fun K => decide (He.fAd K ("Opposite", some "__invert__") = He.fAd K ("Question", some "__invert__"))) rfl)
  have Q_Opposite_ddordd : He.fAd K ("Opposite", some "__or__") = He.fAd K ("Question", some "__or__") := of_decide_eq_true (c.more 28 (f := fun K => decide (He.fAd K ("Opposite", some "__or__") = He.fAd K ("Question", some "__or__"))) rfl)
  have Q_Opposite_surely : He.fAd K ("Opposite", some "surely") = He.fAd K ("Question", some "surely") := of_decide_eq_true (c.more 29 (f := fun K => decide (He.fAd K ("Opposite", some "surely") = He.fAd K ("Question", some "surely"))) rfl)
  have Q_Present_ddanddd : He.fAd K ("Present", some "__and__") = He.fAd K ("Question", some "__and__") := of_decide_eq_true (c.more 30 (f := fun K => decide (He.fAd K ("Present", some "__and__") = He.fAd K ("Question", some "__and__"))) rfl)
  have Q_Present_ddinvertdd : He.fAd K ("Present", some "__invert__") = He.fAd K ("Question", some "__invert__") := of_decide_eq_true (c.more 31 (f := fun K => decide (He.fAd K ("Present", some "__invert__") = He.fAd K ("Question", some "__invert__"))) rfl)
  have Q_Present_ddordd : He.fAd K ("Present", some "__or__") = He.fAd K ("Question", some "__or__") := of_decide_eq_true (c.more 32 (f := fun K => decide (He.fAd K ("Present", some "__or__") = He.fAd K ("Question", some "__or__"))) rfl)
  have Q_Present_surely : He.fAd K ("Present", some "surely") = He.fAd K ("Question", some "surely") := of_decide_eq_true (c.more 33 (f := fun K => decide (He.fAd K ("Present", some "surely") = He.fAd K ("Question", some "surely"))) rfl)
  have Q_Surely_ddanddd : He.fAd K ("Surely", some "__and__") = He.fAd K ("Question", some "__and__") := of_decide_eq_true (c.more 34 (f := fun K => decide (He.fAd K ("Surely", some "__and__") = He.fAd K ("Question", some "__and__"))) rfl)
  have Q_Surely_ddinvertdd : He.fAd K ("Surely", some "__invert__") = He.fAd K ("Question", some "__invert__") := of_decide_eq_true (c.more 35 (f := fun K => decide (He.fAd K ("Surely", some "__invert__") = He.fAd K ("Question", some "__invert__"))) rfl)
  have Q_Surely_ddordd : He.fAd K ("Surely", some "__or__") = He.fAd K ("Question", some "__or__") := of_decide_eq_true (c.more 36 (f := fun K => decide (He.fAd K ("Surely", some "__or__") = He.fAd K ("Question", some "__or__"))) rfl)
  have Q_Surely_surely : He.fAd K ("Surely", some "surely") = He.fAd K ("Question", some "surely") := of_decide_eq_true (c.more 37 (f := fun K => decide (He.fAd K ("Surely", some "surely") = He.fAd K ("Question", some "surely"))) rfl)
  have U_RANKED : TupG K "RANKED" [V.bl false, V.non, V.bl true] := tupG_ok (vs := [.bl false, .non, .bl true]) (c.more 38 (f := fun K => He.tupB K "RANKED" [.bl false, .non, .bl true]) rfl)
  have S_AtMostdd_initdd : SupF hP K "AtMost" (He.fAd K ("Question", some "__init__")) "__init__" "AtMost.__init__" (defArgs s_AtMostdd_initdd) (defBody s_AtMostdd_initdd) (defScope s_AtMostdd_initdd) (He.fAd K ("AtMost", some "__init__")) := sup_of (c.fnv 18 (d := ⟨fun K => He.fAd K ("AtMost", some "__init__"), "__init__", "AtMost.__init__", defArgs s_AtMostdd_initdd, defBody s_AtMostdd_initdd, defScope s_AtMostdd_initdd, [], [], ["__class__"]⟩) rfl) (c.more 39 (f := supB hP "AtMost" "Question") rfl)
  have S_Bothdd_initdd : SupF hP K "Both" (He.fAd K ("Question", some "__init__")) "__init__" "Both.__init__" (defArgs s_Bothdd_initdd) (defBody s_Bothdd_initdd) (defScope s_Bothdd_initdd) (He.fAd K ("Both", some "__init__")) := sup_of (c.fnv 7 (d := ⟨fun K => He.fAd K ("Both", some "__init__"), "__init__", "Both.__init__", defArgs s_Bothdd_initdd, defBody s_Bothdd_initdd, defScope s_Bothdd_initdd, [], [], ["__class__"]⟩) rfl) (c.more 40 (f := supB hP "Both" "Question") rfl)
  have S_Eitherdd_initdd : SupF hP K "Either" (He.fAd K ("Question", some "__init__")) "__init__" "Either.__init__" (defArgs s_Eitherdd_initdd) (defBody s_Eitherdd_initdd) (defScope s_Eitherdd_initdd) (He.fAd K ("Either", some "__init__")) := sup_of (c.fnv 9 (d := ⟨fun K => He.fAd K ("Either", some "__init__"), "__init__", "Either.__init__", defArgs s_Eitherdd_initdd, defBody s_Eitherdd_initdd, defScope s_Eitherdd_initdd, [], [], ["__class__"]⟩) rfl) (c.more 41 (f := supB hP "Either" "Question") rfl)
  have S_HasBitdd_initdd : SupF hP K "HasBit" (He.fAd K ("Question", some "__init__")) "__init__" "HasBit.__init__" (defArgs s_HasBitdd_initdd) (defBody s_HasBitdd_initdd) (defScope s_HasBitdd_initdd) (He.fAd K ("HasBit", some "__init__")) := sup_of (c.fnv 16 (d := ⟨fun K => He.fAd K ("HasBit", some "__init__"), "__init__", "HasBit.__init__", defArgs s_HasBitdd_initdd, defBody s_HasBitdd_initdd, defScope s_HasBitdd_initdd, [], [], ["__class__"]⟩) rfl) (c.more 42 (f := supB hP "HasBit" "Question") rfl)
  have S_Oppositedd_initdd : SupF hP K "Opposite" (He.fAd K ("Question", some "__init__")) "__init__" "Opposite.__init__" (defArgs s_Oppositedd_initdd) (defBody s_Oppositedd_initdd) (defScope s_Oppositedd_initdd) (He.fAd K ("Opposite", some "__init__")) := sup_of (c.fnv 11 (d := ⟨fun K => He.fAd K ("Opposite", some "__init__"), "__init__", "Opposite.__init__", defArgs s_Oppositedd_initdd, defBody s_Oppositedd_initdd, defScope s_Oppositedd_initdd, [], [], ["__class__"]⟩) rfl) (c.more 43 (f := supB hP "Opposite" "Question") rfl)
  have S_Presentdd_initdd : SupF hP K "Present" (He.fAd K ("Question", some "__init__")) "__init__" "Present.__init__" (defArgs s_Presentdd_initdd) (defBody s_Presentdd_initdd) (defScope s_Presentdd_initdd) (He.fAd K ("Present", some "__init__")) := sup_of (c.fnv 15 (d := ⟨fun K => He.fAd K ("Present", some "__init__"), "__init__", "Present.__init__", defArgs s_Presentdd_initdd, defBody s_Presentdd_initdd, defScope s_Presentdd_initdd, [], [], ["__class__"]⟩) rfl) (c.more 44 (f := supB hP "Present" "Question") rfl)
  have S_Surelydd_initdd : SupF hP K "Surely" (He.fAd K ("Question", some "__init__")) "__init__" "Surely.__init__" (defArgs s_Surelydd_initdd) (defBody s_Surelydd_initdd) (defScope s_Surelydd_initdd) (He.fAd K ("Surely", some "__init__")) := sup_of (c.fnv 13 (d := ⟨fun K => He.fAd K ("Surely", some "__init__"), "__init__", "Surely.__init__", defArgs s_Surelydd_initdd, defBody s_Surelydd_initdd, defScope s_Surelydd_initdd, [], [], ["__class__"]⟩) rfl) (c.more 45 (f := supB hP "Surely" "Question") rfl)
  have F__law_draw := c.def_ 0 rfl
  have F__law_names := c.def_ 1 rfl
  have F__law_wide := c.def_ 2 rfl
  have F__law_number := c.def_ 3 rfl
  have F__law_leaf := c.def_ 4 rfl
  have F__law_recipe := c.def_ 5 rfl
  have F_Questiondd_initdd := c.def_ 6 rfl
  have F_Questiondd_anddd := c.def_ 8 rfl
  have F_Questiondd_ordd := c.def_ 10 rfl
  have F_Questiondd_invertdd := c.def_ 12 rfl
  have F_Question_surely := c.def_ 14 rfl
  have F_Formdd_initdd := c.def_ 17 rfl
  have F__law_question := c.def_ 19 rfl
  have F__law_value := c.def_ 20 rfl
  have F__law_leaf_truth := c.def_ 21 rfl
  have F__law_truth := c.def_ 22 rfl
  have F_Form_value := c.def_ 23 rfl
  have F_AtMost_truth := c.def_ 24 rfl
  have F_Present_truth := c.def_ 25 rfl
  have F_HasBit_truth := c.def_ 26 rfl
  have F_Surely_truth := c.def_ 27 rfl
  have F_rank_of := c.def_ 28 rfl
  have F_opposite_truth := c.def_ 29 rfl
  have F_Opposite_truth := c.def_ 30 rfl
  have F_either_truths := c.def_ 31 rfl
  have F_Either_truth := c.def_ 32 rfl
  have F_both_truths := c.def_ 33 rfl
  have F_Both_truth := c.def_ 34 rfl
  have F__law_same := c.def_ 35 rfl
  have F_law := c.def_ 36 rfl
  have T : T0 hP K mg := ⟨n_abs, n_dict, n_int, n_len, n_max, n_min, n_range, n_sorted, n_sum, n_super, n_tuple, g_AtMost, g_Both, g_Either, g_Form, g_HasBit, g_Opposite, g_Present, g_RANKED, g_Surely, g__law_draw, g__law_leaf, g__law_leaf_truth, g__law_names, g__law_number, g__law_question, g__law_recipe, g__law_same, g__law_truth, g__law_value, g__law_wide, g_both_truths, g_either_truths, g_law, g_opposite_truth, g_rank_of, F__law_draw, (let ⟨_, F⟩ := F__law_draw; F.kp), F__law_names, (let ⟨_, F⟩ := F__law_names; F.kp), F__law_wide, (let ⟨_, F⟩ := F__law_wide; F.kp), F__law_number, (let ⟨_, F⟩ := F__law_number; F.kp), F__law_leaf, (let ⟨_, F⟩ := F__law_leaf; F.kp), F__law_recipe, (let ⟨_, F⟩ := F__law_recipe; F.kp), F_Questiondd_initdd, (let ⟨_, F⟩ := F_Questiondd_initdd; F.kp), F_Questiondd_anddd, (let ⟨_, F⟩ := F_Questiondd_anddd; F.kp), F_Questiondd_ordd, (let ⟨_, F⟩ := F_Questiondd_ordd; F.kp), F_Questiondd_invertdd, (let ⟨_, F⟩ := F_Questiondd_invertdd; F.kp), F_Question_surely, (let ⟨_, F⟩ := F_Question_surely; F.kp), F_Formdd_initdd, (let ⟨_, F⟩ := F_Formdd_initdd; F.kp), F__law_question, (let ⟨_, F⟩ := F__law_question; F.kp), F__law_value, (let ⟨_, F⟩ := F__law_value; F.kp), F__law_leaf_truth, (let ⟨_, F⟩ := F__law_leaf_truth; F.kp), F__law_truth, (let ⟨_, F⟩ := F__law_truth; F.kp), F_Form_value, (let ⟨_, F⟩ := F_Form_value; F.kp), F_AtMost_truth, (let ⟨_, F⟩ := F_AtMost_truth; F.kp), F_Present_truth, (let ⟨_, F⟩ := F_Present_truth; F.kp), F_HasBit_truth, (let ⟨_, F⟩ := F_HasBit_truth; F.kp), F_Surely_truth, (let ⟨_, F⟩ := F_Surely_truth; F.kp), F_rank_of, (let ⟨_, F⟩ := F_rank_of; F.kp), F_opposite_truth, (let ⟨_, F⟩ := F_opposite_truth; F.kp), F_Opposite_truth, (let ⟨_, F⟩ := F_Opposite_truth; F.kp), F_either_truths, (let ⟨_, F⟩ := F_either_truths; F.kp), F_Either_truth, (let ⟨_, F⟩ := F_Either_truth; F.kp), F_both_truths, (let ⟨_, F⟩ := F_both_truths; F.kp), F_Both_truth, (let ⟨_, F⟩ := F_Both_truth; F.kp), F__law_same, (let ⟨_, F⟩ := F__law_same; F.kp), F_law, (let ⟨_, F⟩ := F_law; F.kp), C_Form, D_AtMost, D_Both, D_Either, D_HasBit, D_Opposite, D_Present, D_Surely, K_AtMost, K_Both, K_Either, K_Form, K_HasBit, K_Opposite, K_Present, K_Surely, M_AtMost_ddanddd, M_AtMost_ddinvertdd, M_AtMost_ddordd, M_AtMost_surely, M_AtMost_truth, M_Both_ddanddd, M_Both_ddinvertdd, M_Both_ddordd, M_Both_surely, M_Both_truth, M_Either_ddanddd, M_Either_ddinvertdd, M_Either_ddordd, M_Either_surely, M_Either_truth, M_Form_value, M_HasBit_ddanddd, M_HasBit_ddinvertdd, M_HasBit_ddordd, M_HasBit_surely, M_HasBit_truth, M_Opposite_ddanddd, M_Opposite_ddinvertdd, M_Opposite_ddordd, M_Opposite_surely, M_Opposite_truth, M_Present_ddanddd, M_Present_ddinvertdd, M_Present_ddordd, M_Present_surely, M_Present_truth, M_Surely_ddanddd, M_Surely_ddinvertdd, M_Surely_ddordd, M_Surely_surely, M_Surely_truth, NF_and, NF_or, Q_AtMost_ddanddd, Q_AtMost_ddinvertdd, Q_AtMost_ddordd, Q_AtMost_surely, Q_Both_ddanddd, Q_Both_ddinvertdd, Q_Both_ddordd, Q_Both_surely, Q_Either_ddanddd, Q_Either_ddinvertdd, Q_Either_ddordd, Q_Either_surely, Q_HasBit_ddanddd, Q_HasBit_ddinvertdd, Q_HasBit_ddordd, Q_HasBit_surely, Q_Opposite_ddanddd, Q_Opposite_ddinvertdd, Q_Opposite_ddordd, Q_Opposite_surely, Q_Present_ddanddd, Q_Present_ddinvertdd, Q_Present_ddordd, Q_Present_surely, Q_Surely_ddanddd, Q_Surely_ddinvertdd, Q_Surely_ddordd, Q_Surely_surely, S_AtMostdd_initdd, S_Bothdd_initdd, S_Eitherdd_initdd, S_HasBitdd_initdd, S_Oppositedd_initdd, S_Presentdd_initdd, S_Surelydd_initdd, U_RANKED⟩
  obtain ⟨fd, F⟩ := F_law
  have e := hla.symm.trans g_law
  cases e
  have b := FunD.bindsA (ps := ["_law_script"]) F fun _ _ _ _ _ _ us hl => match us, hl with | [_], _ => rfl
  exact ⟨fd, fun s v => b s [v] rfl, fun base _ _ => ok_law T F⟩
end S
open PySem PySem.W PySem.Calls PyProof.Rows
theorem PySem.Challenge.cw_slicedcolumns_k42_truth_holds : PySem.Challenge.rw_slicedcolumns_k42_truth.Holds := by
  w_on; o_law
  refine HandSHeadRun.head_any (r := OpenLaw.row PySem.Challenge.rw_slicedcolumns_k42_truth) (q := view (OpenLaw.row PySem.Challenge.rw_slicedcolumns_k42_truth).prog [28]) (H := S.hhk) (ob := S.hob) (M := 16000) (loose := S.hloose) (d := HandSHeadRun.topDef (OpenLaw.row PySem.Challenge.rw_slicedcolumns_k42_truth).prog 28) (kwd := []) S.hob_eq
    (by kernel_rfl) (fun s => by kernel_rfl) S.hrun (by kernel_rfl) (by kernel_rfl) (by kernel_rfl) (by rfl) (by first | assumption | decide +kernel) (by decide +kernel) ⟨rfl, rfl, rfl, rfl, rfl, by decide +kernel⟩ ?hw ?hc
  case hw => w_witness2
  case hc =>
    refine L2.walk_ofE (l := PySem.Challenge.rw_slicedcolumns_k42_truth) (n := 63) (k := 56) (x := "_law_script") (CX := L2.CX0) rfl (by decide) (by kernel_rfl) ⟨rfl, by decide, by decide⟩ ?F (fun _ _ _ _ z => z)
    intro w mg fa h Y G hmg0
    obtain ⟨K, KX, c⟩ := Y
    have hmg : mg ("law" : PySem.Str) = some (.ref fa) := by
      have e : (HandSHeadRun.topDef (OpenLaw.row PySem.Challenge.rw_slicedcolumns_k42_truth).prog 28).name = ("law" : PySem.Str) := by kernel_rfl
      rw [← e]
      exact hmg0
    obtain ⟨fd, hb, hF⟩ := S.hfacts (w := w) KX G hmg c
    exact ⟨K, fd, S.sp_law K, KX, hb, fun H a ns hl _ hS => ⟨a, ns, rfl, hS, fun _ => rfl⟩, hF⟩
