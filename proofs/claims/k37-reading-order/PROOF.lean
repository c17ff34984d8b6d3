import PyProof.Rows.All
import Wide.All
import OpenK.AllK
import Wide.FinOn
import HandS.ForMost
import HandS.ForExc
import HandS.TupAny
import HandS.IsInst
import HandS.Conv
import HandS.Defaults
import HandS.WideBits
import HandS.SortInts
import HandS.Slots
import HandS.Flow
import HandS.SlotsOwn
import HandS.Exc
import HandS.ExcOwn
import HandS.CallSlots
import HandS.ExcInit
import HandS.ExcIs
import KE.KExcIs
import KE.KExcSuper
import HandS.Head0
import HandS.Head1
import HandS.Head2
import HandS.HeadEnd
import HandS.HeadHook1
import HandS.HeadHook2
import KE.GoesEnum
import HandS.ExcField
import HandS.WideBits
import PyProof.StrReplace2
import KE.KOpsOwn
import HandS.Iter
import HandS.OwnEq
import HandS.Defaults
import HandS.MakeKwOnly
import HandS.TryOnly
import KE.SortCalls
import HandS.GenList
import HandS.Zip
import HandS.Strs
import HandS.TupSets
import PyProof.Rows.SetFrom
import PyProof.AutoSeq1
import PyProof.Rows.ChunkEnd
import HandS.IterNext
import HandS.OwnIter
import PyProof.NeKinds
import KE.SortData
import HandS.Deep
import HandS.Wide
import HandS.TryMany
import PyProof.WalksMore
import HandS.Text
import HandS.SortKw
import KE.DatumOrd
import HandS.MakeKw
import PySem.Challenge.RW_slicedcolumns_k37_reading_order
set_option Elab.async false
set_option linter.all false
set_option maxRecDepth 100000
set_option maxHeartbeats 4000000
namespace S
open PySem PySem.Spec PyProof.Rows L2
abbrev Frag := PySem.W.Frag
/-! ## readings that reduce -/
theorem PE.of {X : Cx} {e : Expr} {t t' : TE} (h : PE X e t) (i : ∀ σ H Q, t' σ H Q → t σ H Q) : PE X e t' := ⟨fun pins s σ H Q I q => h.run pins s σ H Q I (i σ H Q q)⟩
theorem PT.of {X : Cx} {e : Expr} {t t' : TT} (h : PT X e t) (i : ∀ σ H Q, t' σ H Q → t σ H Q) : PT X e t' := ⟨fun pins s σ H Q I q => h.run pins s σ H Q I (i σ H Q q)⟩
theorem PS.of {X : Cx} {e : Stmt} {t t' : TS} (h : PS X e t) (i : ∀ D σ H, t' D σ H → t D σ H) : PS X e t' := ⟨fun pins s σ H Q I q => h.run pins s σ H Q I (i Q σ H q)⟩
theorem OpR.of {X : Cx} {f : Value → Value → Sem Value} {r r' : R2} (h : OpR X f r) (i : ∀ x y H Q, r' x y H Q → r x y H Q) : OpR X f r' := fun pins s σ H x y v u Q I rx ry q => h pins s σ H x y v u Q I rx ry (i x y H Q q)
theorem IxR.of {X : Cx} {r r' : R2} (h : IxR X r) (i : ∀ x y H Q, r' x y H Q → r x y H Q) : IxR X r' := fun e1 e2 pins s σ H x y v u Q I rx ry q hs => h e1 e2 pins s σ H x y v u Q I rx ry (i x y H Q q) hs
theorem CallR.of {X : Cx} {f : Value} {r r' : List V → Hp → VK → Prop} (h : CallR X f r) (i : ∀ xs H Q, r' xs H Q → r xs H Q) : CallR X f r' := fun pins s σ H xs us Q I rx q => h pins s σ H xs us Q I rx (i xs H Q q)
def nth : L2.St → Nat → Option V
  | [], _ => none
  | x :: _, 0 => x
  | _ :: r, n + 1 => nth r n
theorem nth_ok : ∀ {σ : L2.St} {i : Nat} {v : V}, nth σ i = some v → σ[i]? = some (some v)
  | [], _, _, h => nomatch h
  | x :: _, 0, _, h => by
    have e : x = some _ := h
    rw [e]; rfl
  | _ :: r, n + 1, _, h => by
    have := nth_ok (σ := r) (i := n) h
    simpa using this
def SqA (K : Frag) (H : Hp) (p : Addr) (xs : List V) : Prop := SqL K H p xs ∨ SqT K H p xs
/-! ### points at which a reading waits for an answer -/
/-- a condition, then on -/
structure Need (c q : Prop) : Prop where
  c : c
  q : q
/-- the sequence at p is read -/
structure Rd (K : Frag) (H : Hp) (p : Addr) (k : List V → Prop) : Prop where
  ex : ∃ xs, SqA K H p xs ∧ k xs
theorem Rd.l {K : Frag} {H : Hp} {p : Addr} {k : List V → Prop} {xs : List V} (h : H p = some (.lst xs)) (q : k xs) : Rd K H p k := ⟨xs, .inl (SqL.of h), q⟩
theorem Rd.t {K : Frag} {H : Hp} {p : Addr} {k : List V → Prop} {xs : List V} (h : H p = some (.tup xs)) (q : k xs) : Rd K H p k := ⟨xs, .inr (SqT.of h), q⟩
theorem Rd.sl {K : Frag} {H : Hp} {p : Addr} {k : List V → Prop} {xs : List V} (h : SqL K H p xs) (q : k xs) : Rd K H p k := ⟨xs, .inl h, q⟩
theorem Rd.st {K : Frag} {H : Hp} {p : Addr} {k : List V → Prop} {xs : List V} (h : SqT K H p xs) (q : k xs) : Rd K H p k := ⟨xs, .inr h, q⟩
theorem Rd.sa {K : Frag} {H : Hp} {p : Addr} {k : List V → Prop} {xs : List V} (h : SqA K H p xs) (q : k xs) : Rd K H p k := ⟨xs, h, q⟩
/-- the item at i -/
structure At (xs : List V) (i : Int) (k : V → Prop) : Prop where
  ex : ∃ v, atI xs i = some v ∧ k v
theorem At.of {xs : List V} {i : Int} {k : V → Prop} {v : V} (h : atI xs i = some v) (q : k v) : At xs i k := ⟨v, h, q⟩
/-- the list at p is to be changed -/
structure Ls (H : Hp) (p : Addr) (k : List V → Prop) : Prop where
  ex : ∃ xs, H p = some (.lst xs) ∧ k xs
theorem Ls.of {H : Hp} {p : Addr} {k : List V → Prop} {xs : List V} (h : H p = some (.lst xs)) (q : k xs) : Ls H p k := ⟨xs, h, q⟩
/-- a new list; a new tuple, or one that stands -/
structure NewL (H : Hp) (ys : List V) (Q : V → Hp → Prop) : Prop where
  go : ∀ p, H p = none → Q (.ref p) (upd H p (.lst ys))
structure NewT (K : Frag) (H : Hp) (ys : List V) (Q : V → Hp → Prop) : Prop where
  go : ∀ p H', Same H H' → SqT K H' p ys → Q (.ref p) H'
def onSome (o : Option V) (k : V → Prop) : Prop := match o with
  | some v => k v
  | none => False
def dVar (i : Nat) : TE := fun σ H Q => onSome (nth σ i) fun v => Q v H
theorem pv {X : Cx} (i : Nat) {x : Str} {pos : Pos} (hN : X.N[i]? = some x := by rfl) (hv : Vis X.env.scope x := by first | exact Or.inl rfl | exact Or.inr (Or.inl rfl) | exact Or.inr (Or.inr rfl)) (hd : (x == ("__debug__" : Str)) = false := by decide)
    (hcd : (x == ("__classdict__" : Str)) = false := by decide) : PE X (.Name x pos) (dVar i) := PE.of (pe_var hN hv hd hcd) fun σ H Q q => by
  unfold dVar onSome at q
  cases e : nth σ i with
  | none => rw [e] at q; exact q.elim
  | some v => rw [e] at q; exact ⟨v, nth_ok e, q⟩
/-- two ways by a bool -/
def bIf (b : Bool) (A B : Prop) : Prop := match b with
  | true => A
  | false => B
theorem bIf_of {b : Bool} {A B : Prop} (h : bIf b A B) : if b = true then A else B := by
  cases b with
  | true => exact iteT h
  | false => exact iteF h
theorem ifb {b : Bool} {A B : Prop} (h1 : b = true → A) (h2 : b = false → B) : bIf b A B := by
  cases b with
  | true => exact h1 rfl
  | false => exact h2 rfl
theorem ifd {c : Prop} [Decidable c] {A B : Prop} (h1 : c → A) (h2 : ¬ c → B) : bIf (decide c) A B := ifb (fun h => h1 (of_decide_eq_true h)) fun h => h2 (of_decide_eq_false h)
theorem ifn {c : Prop} [Decidable c] {A B : Prop} (h1 : ¬ c → A) (h2 : c → B) : bIf (!decide c) A B := ifb (fun h => h1 (by simpa using h)) fun h => h2 (by simpa using h)
theorem ift {c : Prop} [Decidable c] {A B : Prop} (hc : c) (h1 : A) : bIf (decide c) A B := by rw [decide_eq_true hc]; exact h1
theorem iff' {c : Prop} [Decidable c] {A B : Prop} (hc : ¬ c) (h1 : B) : bIf (decide c) A B := by rw [decide_eq_false hc]; exact h1
theorem ifnt {c : Prop} [Decidable c] {A B : Prop} (hc : ¬ c) (h1 : A) : bIf (!decide c) A B := by rw [decide_eq_false hc]; exact h1
theorem ifnf {c : Prop} [Decidable c] {A B : Prop} (hc : c) (h1 : B) : bIf (!decide c) A B := by rw [decide_eq_true hc]; exact h1
/-! ### tests -/
def dTru (K : Frag) (x : V) (H : Hp) (Q : Bool → Prop) : Prop := match x with
  | .bl b => Q b
  | .non => Q false
  | .int i => Q (decide (i ≠ 0))
  | .str z => Need (z.length ≤ sizeLine) (Q (decide (z.length ≠ 0)))
  | .ref p => Rd K H p fun xs => Q (decide (xs ≠ []))
  | _ => False
def dTest (K : Frag) (ta : TE) : TT := fun σ H Q => ta σ H fun x H1 => dTru K x H1 fun b => Q b H1
theorem pt_of {X : Cx} {a : Expr} {ta : TE} (ha : PE X a ta) (he : ∀ whole, isTrue a X.env whole = (do let v ← whole; standAt a.pos; holding [v] (truthy v)) := by intro _; rfl) : PT X a (dTest X.K ta) := by
  refine ⟨fun pins s σ H Q I h => ?_⟩
  refine isTrue_plain (thn (ha.run pins s σ H _ I h) fun v s1 ⟨x, H1, I1, r1, q1⟩ => ?_) (he _)
  cases x with
  | bl b =>
    exact tru_ok pins s1 σ H1 (.bl b) v Q I1 r1 ⟨b, rfl, q1⟩
  | non =>
    exact tru_ok pins s1 σ H1 .non v Q I1 r1 ⟨false, rfl, q1⟩
  | int i =>
    refine tru_ok pins s1 σ H1 (.int i) v Q I1 r1 ⟨_, rfl, ?_⟩
    have e : (i != 0) = decide (i ≠ 0) := by by_cases h : i = 0 <;> simp [h]
    rw [e]; exact q1
  | str z =>
    refine tru_ok pins s1 σ H1 (.str z) v Q I1 r1 ⟨_, ⟨q1.c, rfl⟩, ?_⟩
    have e : ((z.length : Int) != 0) = decide (z.length ≠ 0) := by by_cases h : z.length = 0 <;> simp [h]
    rw [e]; exact q1.q
  | ref p =>
    obtain ⟨⟨xs, hx, q⟩⟩ := q1
    have e : (!xs.isEmpty) = decide (xs ≠ []) := by cases xs <;> simp
    rcases hx with hx | hx
    · refine tru_ok pins s1 σ H1 (.ref p) v Q I1 r1 ⟨_, .inl ⟨xs, hx, rfl⟩, ?_⟩
      rw [e]; exact q
    · refine tru_ok pins s1 σ H1 (.ref p) v Q I1 r1 ⟨_, .inr (.inl ⟨xs, hx, rfl⟩), ?_⟩
      rw [e]; exact q
  | _ => exact q1.elim
def dAnd (t u : TT) : TT := fun σ H Q => t σ H fun c H1 => bIf c (u σ H1 Q) (Q false H1)
def dOr (t u : TT) : TT := fun σ H Q => t σ H fun c H1 => bIf c (Q true H1) (u σ H1 Q)
def dNot (t : TT) : TT := fun σ H Q => t σ H fun c H1 => Q (!c) H1
def dIfE (t : TT) (ta tb : TE) : TE := fun σ H Q => t σ H fun c H1 => bIf c (ta σ H1 Q) (tb σ H1 Q)
def dIfS (c : TT) (t u : TS) : TS := fun D σ H => c σ H fun b H1 => bIf b (t D σ H1) (u D σ H1)

/-! ### operators by the values -/
def int2 (k : Int → Int → Prop) (x y : V) : Prop := match x, y with
  | .int i, .int j => k i j
  | _, _ => False
/-- two lists, two tuples one behind the other -/
structure Cat (K : Frag) (H : Hp) (a b : Addr) (Q : V → Hp → Prop) : Prop where
  ex : (∃ xs zs, H a = some (.lst xs) ∧ H b = some (.lst zs) ∧ xs.length + zs.length ≤ sizeLine ∧ ∀ p, H p = none → Q (.ref p) (upd H p (.lst (xs ++ zs)))) ∨
     (∃ xs ys, SqT K H a xs ∧ SqT K H b ys ∧ xs.length + ys.length ≤ sizeLine ∧ ∀ p H', Same H H' → SqT K H' p (xs ++ ys) → Q (.ref p) H')
theorem Cat.l {K : Frag} {H : Hp} {a b : Addr} {Q : V → Hp → Prop} {xs zs : List V} (h : H a = some (.lst xs)) (h2 : H b = some (.lst zs)) (hz : xs.length + zs.length ≤ sizeLine) (q : ∀ p, H p = none → Q (.ref p) (upd H p (.lst (xs ++ zs)))) : Cat K H a b Q := ⟨.inl ⟨xs, zs, h, h2, hz, q⟩⟩
theorem Cat.t {K : Frag} {H : Hp} {a b : Addr} {Q : V → Hp → Prop} {xs ys : List V} (h : SqT K H a xs) (h2 : SqT K H b ys) (hz : xs.length + ys.length ≤ sizeLine) (q : ∀ p H', Same H H' → SqT K H' p (xs ++ ys) → Q (.ref p) H') : Cat K H a b Q := ⟨.inr ⟨xs, ys, h, h2, hz, q⟩⟩
def oAdd (K : Frag) : R2 := fun x y H Q => match x, y with
  | .int i, .int j => Q (.int (i + j)) H
  | .str a, .str b => Need (a.length + b.length ≤ sizeLine) (Q (.str (a ++ b)) H)
  | .ref a, .ref b => Cat K H a b Q
  | _, _ => False
theorem same_new {H : Hp} {p : Addr} {o : HO} (h : H p = none) : Same H (upd H p o) := fun b u e => by rw [upd_ne (ne_of_none e h)]; exact e
theorem o_add {X : Cx} : OpR X (binaryOp .Add) (oAdd X.K) := OpR.of (op_add.or (op_add_str.or (op_cat.or op_catA))) fun x y H Q q => by
  cases x <;> cases y <;> try exact q.elim
  · exact .inl ⟨_, _, rfl, rfl, q⟩
  · exact .inr (.inl ⟨_, _, rfl, rfl, q.c, q.q⟩)
  · rcases q.ex with ⟨xs, zs, h1, h2, h3, q⟩ | ⟨xs, ys, h1, h2, h3, q⟩
    · exact .inr (.inr (.inl ⟨_, _, xs, zs, rfl, rfl, h1, h2, h3, q⟩))
    · refine .inr (.inr (.inr ⟨_, _, xs, ys, rfl, rfl, h1, h2, h3, fun e => ?_, fun _ e => ?_, fun _ _ p hp => ?_⟩))
      · subst e; exact q _ _ (Same.refl _) h2
      · subst e; exact q _ _ (Same.refl _) (by rw [List.append_nil]; exact h1)
      · exact q _ _ (same_new hp) (SqT.of upd_same)
def oI (C : Int → Int → Prop) (g : Int → Int → Int) : R2 := fun x y H Q => int2 (fun i j => Need (C i j) (Q (.int (g i j)) H)) x y
def oI0 (g : Int → Int → Int) : R2 := fun x y H Q => int2 (fun i j => Q (.int (g i j)) H) x y
theorem oI_of {X : Cx} {f : Value → Value → Sem Value} {C : Int → Int → Prop} {g : Int → Int → Int} (h : OpR X f (rI C fun i j => .int (g i j))) : OpR X f (oI C g) := OpR.of h fun x y H Q q => by
  cases x <;> cases y <;> try exact q.elim
  exact ⟨_, _, rfl, rfl, q.c, q.q⟩
theorem oI0_of {X : Cx} {f : Value → Value → Sem Value} {g : Int → Int → Int} (h : OpR X f (rI0 fun i j => .int (g i j))) : OpR X f (oI0 g) := OpR.of h fun x y H Q q => by
  cases x <;> cases y <;> try exact q.elim
  exact ⟨_, _, rfl, rfl, q⟩
def oSub : R2 := oI0 fun i j => i - j
theorem o_sub {X : Cx} : OpR X (binaryOp .Sub) oSub := oI0_of op_sub
def oMul : R2 := oI CMul fun i j => i * j
theorem o_mul {X : Cx} : OpR X (binaryOp .Mult) oMul := oI_of op_mul
def oFdiv : R2 := oI CDiv fun i j => i / j
theorem o_fdiv {X : Cx} : OpR X (binaryOp .FloorDiv) oFdiv := oI_of op_fdiv
def oMod : R2 := oI (fun _ j => 0 < j) fun i j => i % j
theorem o_mod {X : Cx} : OpR X (binaryOp .Mod) oMod := oI_of op_mod
def oPow : R2 := oI CPow fun i j => i ^ j.toNat
theorem o_pow {X : Cx} : OpR X (binaryOp .Pow) oPow := oI_of op_pow
def oAnd : R2 := oI0 fun i j => Builtin.bitAnd i j
theorem o_and {X : Cx} : OpR X (binaryOp .BitAnd) oAnd := oI0_of op_and
def oShl : R2 := oI CPow fun i j => i * 2 ^ j.toNat
theorem o_shl {X : Cx} : OpR X (binaryOp .LShift) oShl := oI_of op_shl
def oShr : R2 := oI (fun _ j => 0 ≤ j) fun i j => i / 2 ^ j.toNat
theorem o_shr {X : Cx} : OpR X (binaryOp .RShift) oShr := oI_of op_shr
def uNeg : V → Hp → VK → Prop := fun x H Q => match x with
  | .int i => Q (.int (-i)) H
  | _ => False
theorem u_neg {X : Cx} : UnR X (unaryOp .USub) uNeg := fun pins s σ H x v Q I rx q => by
  cases x <;> try exact q.elim
  exact un_neg pins s σ H _ v Q I rx ⟨_, rfl, q⟩
def oC (g : Int → Int → Bool) : R2 := fun x y H Q => int2 (fun i j => Q (.bl (g i j)) H) x y
theorem oC_of {X : Cx} {f : Value → Value → Sem Value} {g : Int → Int → Bool} (h : OpR X f (rI0 fun i j => .bl (g i j))) : OpR X f (oC g) := OpR.of h fun x y H Q q => by
  cases x <;> cases y <;> try exact q.elim
  exact ⟨_, _, rfl, rfl, q⟩
def oLt : R2 := oC fun i j => decide (i < j)
def oLe : R2 := oC fun i j => decide (i ≤ j)
def oGt : R2 := oC fun i j => decide (j < i)
def oGe : R2 := oC fun i j => decide (j ≤ i)
theorem o_lt {X : Cx} : OpR X (compareOp .Lt) oLt := oC_of op_lt
theorem o_le {X : Cx} : OpR X (compareOp .LtE) oLe := oC_of op_le
theorem o_gt {X : Cx} : OpR X (compareOp .Gt) oGt := oC_of op_gt
theorem o_ge {X : Cx} : OpR X (compareOp .GtE) oGe := oC_of op_ge
def oIsN : R2 := fun x y H Q => y = .non ∧ Q (.bl (match x with | .non => true | _ => false)) H
def oNotN : R2 := fun x y H Q => y = .non ∧ Q (.bl (match x with | .non => false | _ => true)) H
theorem o_isN {X : Cx} : OpR X (compareOp .Is) oIsN := OpR.of op_isN fun x y H Q q => ⟨q.1, by cases x <;> exact q.2⟩
theorem o_notN {X : Cx} : OpR X (compareOp .IsNot) oNotN := OpR.of op_notN fun x y H Q q => ⟨q.1, by cases x <;> exact q.2⟩
/-- two data compared -/
structure EqD (K : Frag) (H : Hp) (x y : V) (k : Bool → Prop) : Prop where
  ex : ∃ d e, Dp K H x d ∧ Dp K H y e ∧ SeqAt.shaped d = true ∧ SeqAt.shaped e = true ∧ k (PyData.eqv d e)
/-- == of scalars and of data -/
def oEq (K : Frag) : R2 := fun x y H Q => match x, y with
  | .int i, .int j => Q (.bl (decide (i = j))) H
  | .str i, .str j => Q (.bl (decide (i = j))) H
  | .bl i, .bl j => Q (.bl (decide (i = j))) H
  | .non, .non => Q (.bl true) H
  | .non, .int _ => Q (.bl false) H
  | .int _, .non => Q (.bl false) H
  | .non, .bl _ => Q (.bl false) H
  | .bl _, .non => Q (.bl false) H
  | .non, .str _ => Q (.bl false) H
  | .str _, .non => Q (.bl false) H
  | .int _, .str _ => Q (.bl false) H
  | .str _, .int _ => Q (.bl false) H
  | x, y => EqD K H x y fun b => Q (.bl b) H
def oNe (K : Frag) : R2 := fun x y H Q => oEq K x y H fun v H' => match v with
  | .bl b => Q (.bl (!b)) H'
  | _ => False
theorem o_eq {X : Cx} (hu : X.A.units + 64 < cLine) : OpR X (compareOp .Eq) (oEq X.K) := OpR.of (op_eq.or (op_eqD hu)) fun x y H Q q => by
  cases x <;> cases y <;> first
    | exact .inr q.ex
    | (refine .inl ⟨rfl, ?_⟩; refine Eq.mp (congrArg (fun b => Q (V.bl b) H) ?_) q; simp)
theorem o_ne {X : Cx} (hu : X.A.units + 64 < cLine) : OpR X (compareOp .NotEq) (oNe X.K) := OpR.of (op_ne.or (op_neD hu)) fun x y H Q q => by
  cases x <;> cases y <;> first
    | exact .inr q.ex
    | (refine .inl ⟨rfl, ?_⟩; refine Eq.mp (congrArg (fun b => Q (V.bl b) H) ?_) q; simp)
/-! ### comparisons as tests, chains -/
def dCmp (r : R2) (ta tb : TE) : TE := tOp r ta tb
def isB (Q : Bool → Hp → Prop) : VK := fun z H => match z with
  | .bl k => Q k H
  | _ => False
theorem isB_ex {Q : Bool → Hp → Prop} {z : V} {H : Hp} (h : isB Q z H) : ∃ k, z = .bl k ∧ Q k H := by
  cases z <;> try exact h.elim
  exact ⟨_, rfl, h⟩
def dCmpT (r : R2) (ta tb : TE) : TT := fun σ H Q => ta σ H fun x H1 => tb σ H1 fun y H2 => r x y H2 (isB Q)
theorem pt_cmp {X : Cx} {op : CmpOp} {a b : Expr} {ta tb : TE} {pos : Pos} {r : R2} (ho : OpR X (compareOp op) r) (ha : PE X a ta) (hb : PE X b tb) (hm : behindInMarks op b = false) : PT X (.Compare a [op] [b] pos) (dCmpT r ta tb) := by
  refine ⟨fun pins s σ H Q I h => ?_⟩
  refine wpAny_isTrue_Compare1 (thn (ha.run pins s σ H _ I h) fun v s1 ⟨x, H1, I1, r1, q1⟩ => thn (hb.run pins s1 σ H1 _ I1 q1) fun u s2 ⟨y, H2, I2, r2, q2⟩ =>
    thn (ho pins s2 σ H2 x y v u _ I2 r1 r2 q2) fun c s3 ⟨z, H3, I3, r3, q3⟩ => ?_) hm
  obtain ⟨k, e, q3⟩ := isB_ex q3
  subst e
  cases r3
  exact wpAny_truthy_bool ⟨H3, I3, q3⟩
def dChain (r r' : R2) (ta tb tc : TE) : TE := fun σ H Q => ta σ H fun x H1 => tb σ H1 fun y H2 => r x y H2 (isB fun k H3 => bIf k (tc σ H3 fun w' H4 => r' y w' H4 Q) (Q (.bl false) H3))
def dChainT (r r' : R2) (ta tb tc : TE) : TT := fun σ H Q => dChain r r' ta tb tc σ H (isB Q)
theorem pe_cmp {X : Cx} {op : CmpOp} {a b : Expr} {ta tb : TE} {pos : Pos} {r : R2} (ho : OpR X (compareOp op) r) (ha : PE X a ta) (hb : PE X b tb) (hm : behindInMarks op b = false) : PE X (.Compare a [op] [b] pos) (tOp r ta tb) := pe_cmpR ho ha hb hm
theorem pe_chain {X : Cx} {op op' : CmpOp} {a b c : Expr} {r r' : R2} {ta tb tc : TE} {pos : Pos} (ho : OpR X (compareOp op) r) (ho' : OpR X (compareOp op') r') (ha : PE X a ta) (hb : PE X b tb) (hc : PE X c tc)
    (hm : lastMarks [op, op'] [b, c] = false := by with_unfolding_all rfl) : PE X (.Compare a [op, op'] [b, c] pos) (dChain r r' ta tb tc) := by
  refine ⟨fun pins s σ H Q I h => ?_⟩
  refine Compare_chain (thn (ha.run pins s σ H _ I h) fun v s1 ⟨x, H1, I1, r1, q1⟩ => chain_link (thn (hb.run pins s1 σ H1 _ I1 q1) fun u s2 ⟨y, H2, I2, r2, q2⟩ =>
    thn (ho pins s2 σ H2 x y v u _ I2 r1 r2 q2) fun d s3 ⟨z, H3, I3, r3, q3⟩ => ?_)) hm
  obtain ⟨k, e, q3⟩ := isB_ex q3
  subst e
  cases r3
  refine wpAny_truthy_bool ?_
  cases k with
  | false => exact ite_ff ⟨.bl false, H3, I3, rfl, q3⟩
  | true => exact ite_tt (chain_last (thn (hc.run pins s3 σ H3 _ I3 q3) fun w' s4 ⟨z', H4, I4, r4, q4⟩ => ho' pins s4 σ H4 y z' u w' Q I4 r2 r4 q4))
theorem pt_chain {X : Cx} {op op' : CmpOp} {a b c : Expr} {r r' : R2} {ta tb tc : TE} {pos : Pos} (ho : OpR X (compareOp op) r) (ho' : OpR X (compareOp op') r') (ha : PE X a ta) (hb : PE X b tb) (hc : PE X c tc)
    (hm : lastMarks [op, op'] [b, c] = false := by with_unfolding_all rfl) : PT X (.Compare a [op, op'] [b, c] pos) (dChainT r r' ta tb tc) := by
  refine ⟨fun pins s σ H Q I h => ?_⟩
  refine isTrue_chain (thn (ha.run pins s σ H _ I h) fun v s1 ⟨x, H1, I1, r1, q1⟩ => test_link (thn (hb.run pins s1 σ H1 _ I1 q1) fun u s2 ⟨y, H2, I2, r2, q2⟩ =>
    thn (ho pins s2 σ H2 x y v u _ I2 r1 r2 q2) fun d s3 ⟨z, H3, I3, r3, q3⟩ => ?_)) hm
  obtain ⟨k, e, q3⟩ := isB_ex q3
  subst e
  cases r3
  refine wpAny_truthy_bool ?_
  cases k with
  | false => exact ite_ff ⟨H3, I3, q3⟩
  | true =>
    refine ite_tt (test_last (thn (hc.run pins s3 σ H3 _ I3 q3) fun w' s4 ⟨z', H4, I4, r4, q4⟩ => thn (ho' pins s4 σ H4 y z' u w' _ I4 r2 r4 q4) fun d' s5 ⟨z2, H5, I5, r5, q5⟩ => ?_))
    obtain ⟨k2, e2, q5⟩ := isB_ex q5
    subst e2
    cases r5
    exact wpAny_truthy_bool ⟨H5, I5, q5⟩
theorem pw_and {X : Cx} {a b : Expr} {rest : List Expr} {tA tB' : TT} {pos : Pos} (ha : PT X a tA) (hb : PW X (.BoolOp .And (b :: rest) pos) tB') : PW X (.BoolOp .And (a :: b :: rest) pos) (dAnd tA tB') := by
  refine ⟨fun wh pins s σ H Q I h => ?_⟩
  refine isTrue_and (thn (ha.run pins s σ H _ I h) fun c s1 ⟨H1, I1, q1⟩ => ?_)
  cases c with
  | true => exact hb.run wh pins s1 σ H1 Q I1 q1
  | false => exact ⟨H1, I1, q1⟩
theorem pw_or {X : Cx} {a b : Expr} {rest : List Expr} {tA tB' : TT} {pos : Pos} (ha : PT X a tA) (hb : PW X (.BoolOp .Or (b :: rest) pos) tB') : PW X (.BoolOp .Or (a :: b :: rest) pos) (dOr tA tB') := by
  refine ⟨fun wh pins s σ H Q I h => ?_⟩
  refine isTrue_or (thn (ha.run pins s σ H _ I h) fun c s1 ⟨H1, I1, q1⟩ => ?_)
  cases c with
  | true => exact ⟨H1, I1, q1⟩
  | false => exact hb.run wh pins s1 σ H1 Q I1 q1
theorem pt_not {X : Cx} {a : Expr} {tA : TT} {pos : Pos} (ha : PT X a tA) : PT X (.UnaryOp .Not a pos) (dNot tA) := L2.pt_not ha
theorem pe_ifE {X : Cx} {c a b : Expr} {tA : TT} {ta tb : TE} {pos : Pos} (hc : PT X c tA) (ha : PE X a ta) (hb : PE X b tb) : PE X (.IfExp c a b pos) (dIfE tA ta tb) := by
  refine ⟨fun pins s σ H Q I h => ?_⟩
  refine wpAny_IfExp (thn (hc.run pins s σ H _ I h) fun d s1 ⟨H1, I1, q1⟩ => ?_)
  cases d with
  | true => exact ha.run pins s1 σ H1 Q I1 q1
  | false => exact hb.run pins s1 σ H1 Q I1 q1
theorem ps_if {X : Cx} {c : Expr} {a b : List Stmt} {tc : TT} {t u : TS} {pos : Pos} (hc : PT X c tc) (ha : PSs X a t) (hb : PSs X b u) : PS X (.If c a b pos) (dIfS tc t u) := by
  refine ⟨fun pins s σ H D I h => ?_⟩
  refine wpAny_If (thn (hc.run pins s σ H _ I h) fun d s1 ⟨H1, I1, q1⟩ => ?_)
  cases d with
  | true => exact ha.run pins s1 σ H1 D I1 q1
  | false => exact hb.run pins s1 σ H1 D I1 q1
/-- and, or as values: all but the last True or False -/
def dAndV (ta tb : TE) : TE := fun σ H Q => ta σ H (isB fun c H1 => bIf c (tb σ H1 Q) (Q (.bl false) H1))
def dOrV (ta tb : TE) : TE := fun σ H Q => ta σ H (isB fun c H1 => bIf c (Q (.bl true) H1) (tb σ H1 Q))
def dNotV (ta : TE) : TE := fun σ H Q => ta σ H (isB fun c H1 => Q (.bl (!c)) H1)
theorem pe_and {X : Cx} {a b : Expr} {rest : List Expr} {ta tb : TE} {pos : Pos} (ha : PE X a ta) (hb : PE X (.BoolOp .And (b :: rest) pos) tb) : PE X (.BoolOp .And (a :: b :: rest) pos) (dAndV ta tb) := by
  refine ⟨fun pins s σ H Q I h => ?_⟩
  refine BoolOp_and (thn (ha.run pins s σ H _ I h) fun v s1 ⟨x, H1, I1, r1, q1⟩ => ?_)
  obtain ⟨c, e, q⟩ := isB_ex q1
  subst e
  cases r1
  refine wpAny_truthy_bool ?_
  cases c with
  | true => exact hb.run pins s1 σ H1 Q I1 q
  | false => exact ⟨.bl false, H1, I1, rfl, q⟩
theorem pe_or {X : Cx} {a b : Expr} {rest : List Expr} {ta tb : TE} {pos : Pos} (ha : PE X a ta) (hb : PE X (.BoolOp .Or (b :: rest) pos) tb) : PE X (.BoolOp .Or (a :: b :: rest) pos) (dOrV ta tb) := by
  refine ⟨fun pins s σ H Q I h => ?_⟩
  refine BoolOp_or (thn (ha.run pins s σ H _ I h) fun v s1 ⟨x, H1, I1, r1, q1⟩ => ?_)
  obtain ⟨c, e, q⟩ := isB_ex q1
  subst e
  cases r1
  refine wpAny_truthy_bool ?_
  cases c with
  | true => exact ⟨.bl true, H1, I1, rfl, q⟩
  | false => exact hb.run pins s1 σ H1 Q I1 q
theorem pe_not {X : Cx} {a : Expr} {ta : TE} {pos : Pos} (ha : PE X a ta) : PE X (.UnaryOp .Not a pos) (dNotV ta) := by
  refine ⟨fun pins s σ H Q I h => ?_⟩
  refine UnaryOp_ (thn (ha.run pins s σ H _ I h) fun v s1 ⟨x, H1, I1, r1, q1⟩ => ?_)
  obtain ⟨c, e, q⟩ := isB_ex q1
  subst e
  cases r1
  exact not_of (wpAny_truthy_bool ⟨.bl (!c), H1, I1, rfl, q⟩)
/-! ### subscripts, slices -/
/-- the sign at i -/
structure AtS (z : Str) (i : Int) (k : Nat → Prop) : Prop where
  ex : ∃ c, atI z.cps.toList i = some c ∧ k c
def oIx (K : Frag) : R2 := fun x y H Q => match x, y with
  | .ref p, .int i => Rd K H p fun xs => At xs i fun v => Q v H
  | .str z, .int i => Need (z.length ≤ sizeLine) (AtS z i fun c => Q (.str ⟨#[c]⟩) H)
  | _, _ => False
theorem ix_any {X : Cx} : IxR X (oIx X.K) := IxR.of ix_seq fun x y H Q q => by
  cases x <;> cases y <;> try exact q.elim
  · obtain ⟨hz, ⟨c, e, q⟩⟩ := q
    exact .inr (.inr ⟨_, _, c, rfl, rfl, hz, e, q⟩)
  · obtain ⟨⟨xs, hs, ⟨v, e, q⟩⟩⟩ := q
    rcases hs with hs | hs
    · exact .inl ⟨_, xs, _, v, rfl, rfl, hs, e, q⟩
    · exact .inr (.inl ⟨_, xs, _, v, rfl, rfl, hs, e, q⟩)
def dPart (t : TE) : TO := fun σ H Q => t σ H fun x H1 => match x with
  | .int i => Q (some i) H1
  | _ => False
theorem po_some {X : Cx} {e : Expr} {te : TE} (h : PE X e te) : PO X (some e) (dPart te) := by
  refine ⟨fun pins s σ H Q I q => ?_⟩
  rw [evalPart_some]
  refine thn (h.run pins s σ H _ I q) fun u s1 ⟨x, H1, I1, r1, q1⟩ => ?_
  cases x <;> try exact q1.elim
  obtain ⟨t, rfl⟩ := r1
  exact ⟨_, H1, I1, .int _ t, q1⟩
/-- a slice of the list, of the tuple at p -/
structure Cut (K : Frag) (H : Hp) (p : Addr) (lo hi : Option Int) (Q : V → Hp → Prop) : Prop where
  ex : (∃ xs, SqL K H p xs ∧ ∀ q, H q = none → Q (.ref q) (upd H q (.lst (cutV xs lo hi)))) ∨ (∃ xs, SqT K H p xs ∧ ∀ q H', Same H H' → SqT K H' q (cutV xs lo hi) → Q (.ref q) H')
theorem Cut.l {K : Frag} {H : Hp} {p : Addr} {lo hi : Option Int} {Q : V → Hp → Prop} {xs : List V} (h : SqL K H p xs) (q : ∀ q, H q = none → Q (.ref q) (upd H q (.lst (cutV xs lo hi)))) : Cut K H p lo hi Q := ⟨.inl ⟨xs, h, q⟩⟩
theorem Cut.t {K : Frag} {H : Hp} {p : Addr} {lo hi : Option Int} {Q : V → Hp → Prop} {xs : List V} (h : SqT K H p xs) (q : ∀ q H', Same H H' → SqT K H' q (cutV xs lo hi) → Q (.ref q) H') : Cut K H p lo hi Q := ⟨.inr ⟨xs, h, q⟩⟩
def oSl (K : Frag) : V → Option Int → Option Int → Hp → VK → Prop := fun x lo hi H Q => match x with
  | .ref p => Cut K H p lo hi Q
  | _ => False
theorem SlR.of {X : Cx} {r r' : V → Option Int → Option Int → Hp → VK → Prop} (h : SlR X r) (i : ∀ x l u H Q, r' x l u H Q → r x l u H Q) : SlR X r' := fun pins s σ H x v vl vu lo hi sl Q I rx hs pl pu q => h pins s σ H x v vl vu lo hi sl Q I rx hs pl pu (i x lo hi H Q q)
theorem cut_whole {xs : List V} {lo hi : Option Int} (h : HT.sIx xs.length 0 lo = 0 ∧ HT.sIx xs.length xs.length hi = xs.length) : cutV xs lo hi = xs := by
  unfold cutV
  rw [h.1, h.2]
  simp
theorem sl_any {X : Cx} : SlR X (oSl X.K) := SlR.of (sl_list.or sl_tupA) fun x lo hi H Q q => by
  cases x <;> try exact q.elim
  rcases q.ex with ⟨xs, h, q⟩ | ⟨xs, h, q⟩
  · exact .inl ⟨_, xs, rfl, h, q⟩
  · refine .inr ⟨_, xs, rfl, h, fun w => ?_, fun _ p hp => q _ _ (same_new hp) (SqT.of upd_same)⟩
    exact q _ _ (Same.refl _) (by rw [cut_whole w]; exact h)
/-! ### displays -/
def dLst (t : TA) : TE := fun σ H Q => t σ H fun xs H1 => Need (xs.length ≤ sizeLine) (NewL H1 xs Q)
def dTup (K : Frag) (t : TA) : TE := fun σ H Q => t σ H fun xs H1 => Need (xs.length ≤ sizeLine) (NewT K H1 xs Q)
theorem pe_tup {X : Cx} {es : List Expr} {t : TA} {x1} {pos : Pos} (h : PA X es t) : PE X (.Tuple es x1 pos) (dTup X.K t) := by
  refine ⟨fun pins s σ H Q I hq => ?_⟩
  refine wpAny_Tuple_spliced (thn (h.run pos pins s σ H _ I hq) fun us s1 ⟨xs, H1, I1, r, ⟨z, ⟨q⟩⟩⟩ => ⟨by rw [← r.length]; exact z, ?_⟩)
  have hf : H1 s1.heap.objs.size = none := I1.hok.fresh (Nat.le_refl _)
  refine ⟨.ref s1.heap.objs.size, upd H1 s1.heap.objs.size (.tup xs), I1.laid (t' := s1.toks) (fun b u e => Heap.get?_push_of_some _ e) (Nat.le_refl _) ?_, rfl, q _ _ (same_new hf) (SqT.of upd_same)⟩
  exact ⟨z, us, r, ⟨_, Heap.get?_push_size _ rfl, rfl, _, rfl⟩⟩
theorem pe_lst {X : Cx} {es : List Expr} {t : TA} {pos : Pos} (h : PA X es t) : PE X (.List es pos) (dLst t) := by
  refine ⟨fun pins s σ H Q I hq => ?_⟩
  refine wpAny_List_spliced (thn (h.run pos pins s σ H _ I hq) fun us s1 ⟨xs, H1, I1, r, ⟨z, ⟨q⟩⟩⟩ => ⟨by rw [← r.length]; exact z, ?_⟩)
  have hf : H1 s1.heap.objs.size = none := I1.hok.fresh (Nat.le_refl _)
  refine ⟨.ref s1.heap.objs.size, upd H1 s1.heap.objs.size (.lst xs), I1.laid (t' := s1.toks) (fun b u e => Heap.get?_push_of_some _ e) (Nat.le_refl _) ?_, rfl, q _ hf⟩
  exact ⟨z, us, 0, r, Heap.get?_push_size _ rfl⟩
/-! ### builtin calls -/
def cLen (K : Frag) : List V → Hp → VK → Prop := fun xs H Q => match xs with
  | [.str z] => Need (z.length ≤ sizeLine) (Q (.int z.length) H)
  | [.ref p] => Rd K H p fun ys => Q (.int ys.length) H
  | _ => False
theorem c_len {X : Cx} : CallR X (.builtin "len") (cLen X.K) := CallR.of (call_len_seq.or call_len_str) fun xs H Q q => by
  match xs, q with
  | [.str z], q => exact .inr ⟨z, rfl, q.c, q.q⟩
  | [.ref p], ⟨⟨ys, h, q⟩⟩ => exact .inl ⟨p, ys, rfl, h, q⟩
def cTuple (K : Frag) : List V → Hp → VK → Prop := fun xs H Q => match xs with
  | [.ref p] => Rd K H p fun ys => NewT K H ys Q
  | _ => False
theorem c_tuple {X : Cx} : CallR X (.type "tuple") (cTuple X.K) := CallR.of call_tuple_of fun xs H Q q => by
  match xs, q with
  | [.ref p], ⟨⟨ys, h, ⟨q⟩⟩⟩ =>
    refine ⟨p, ys, rfl, ?_⟩
    rcases h with h | h
    · exact .inl ⟨h, fun l hl => q _ _ (same_new hl) (SqT.of upd_same)⟩
    · exact .inr ⟨h, q _ _ (Same.refl _) h⟩
def cList (K : Frag) : List V → Hp → VK → Prop := fun xs H Q => match xs with
  | [.ref p] => Rd K H p fun ys => NewL H ys Q
  | _ => False
theorem c_list {X : Cx} : CallR X (.type "list") (cList X.K) := CallR.of call_list_of fun xs H Q q => by
  match xs, q with
  | [.ref p], ⟨⟨ys, h, ⟨q⟩⟩⟩ => exact ⟨p, ys, rfl, h, q⟩
def b2i (b : Bool) : Int := match b with
  | true => 1
  | false => 0
def cInt : List V → Hp → VK → Prop := fun xs H Q => match xs with
  | [.int i] => Q (.int i) H
  | [.bl b] => Q (.int (b2i b)) H
  | _ => False
theorem c_int {X : Cx} : CallR X (.type "int") cInt := CallR.of call_int1 fun xs H Q q => by
  match xs, q with
  | [.int i], q => exact .inl ⟨_, rfl, q⟩
  | [.bl b], q =>
    refine .inr ⟨_, rfl, ?_⟩
    cases b <;> exact q
def cAbs : List V → Hp → VK → Prop := fun xs H Q => match xs with
  | [.int i] => Q (.int (i.natAbs : Int)) H
  | _ => False
theorem c_abs {X : Cx} : CallR X (.builtin "abs") cAbs := CallR.of call_abs fun xs H Q q => by
  match xs, q with
  | [.int i], q =>
    refine ⟨_, rfl, ?_⟩
    have e : (if i < 0 then -i else i) = (i.natAbs : Int) := by split <;> omega
    rw [e]; exact q
def cMax2 : List V → Hp → VK → Prop := fun xs H Q => match xs with
  | [.int i, .int j] => Q (.int (max i j)) H
  | _ => False
theorem c_max2 {X : Cx} (hc : X.calm = true) : CallR X (.builtin "max") cMax2 := CallR.of (call_max2 hc) fun xs H Q q => by
  match xs, q with
  | [.int i, .int j], q =>
    refine ⟨_, _, rfl, ?_⟩
    have e : (if j > i then j else i) = max i j := by split <;> omega
    rw [e]; exact q
def cMin2 : List V → Hp → VK → Prop := fun xs H Q => match xs with
  | [.int i, .int j] => Q (.int (min i j)) H
  | _ => False
theorem c_min2 {X : Cx} (hc : X.calm = true) : CallR X (.builtin "min") cMin2 := CallR.of (call_min2 hc) fun xs H Q q => by
  match xs, q with
  | [.int i, .int j], q =>
    refine ⟨_, _, rfl, ?_⟩
    have e : (if j < i then j else i) = min i j := by split <;> omega
    rw [e]; exact q
/-- isinstance(x, T), one class -/
structure Isi (K : Frag) (H : Hp) (x : V) (u : Value) (k : Bool → Prop) : Prop where
  ex : (∃ t b, TyX K H x t ∧ PySem.W.kitOne K t u = some b ∧ k b) ∨ (∃ a C dx vs b, x = .ref a ∧ SlX.Slt H a C dx vs ∧ SlX.SCls K C ∧ SlX.SIsi K C ∧ PySem.W.kitOne K (.ref C) u = some b ∧ k b)
theorem Isi.of {K : Frag} {H : Hp} {x : V} {u t : Value} {b : Bool} {k : Bool → Prop} (h : TyX K H x t) (e : PySem.W.kitOne K t u = some b) (q : k b) : Isi K H x u k := ⟨.inl ⟨t, b, h, e, q⟩⟩
def cIsi (K : Frag) : List V → Hp → VK → Prop := fun xs H Q => match xs with
  | [x, .ty n] => Isi K H x (.type n) fun b => Q (.bl b) H
  | [x, .ref C] => Isi K H x (.ref C) fun b => Q (.bl b) H
  | _ => False
theorem c_isi {X : Cx} : CallR X (.builtin "isinstance") (cIsi X.K) := by
  intro pins s σ H xs us Q I r q
  match xs, q with
  | [x, .ty n], ⟨.inl ⟨t, b, h1, h2, q⟩⟩ => exact call_isi pins s σ H _ us Q I r ⟨x, _, t, _, b, rfl, .ty n, h1, h2, q⟩
  | [x, .ref C], ⟨.inl ⟨t, b, h1, h2, q⟩⟩ => exact call_isi pins s σ H _ us Q I r ⟨x, _, t, _, b, rfl, .own C, h1, h2, q⟩
  | [x, .ty n], ⟨.inr ⟨a, C, dx, vs, b, e, h1, h2, h3, h4, q⟩⟩ =>
    subst e
    exact SlX.call_isiSl (.type n) pins s σ H _ us Q I r ⟨a, C, dx, vs, _, b, rfl, rfl, fun w z => z, h1, h2, h3, h4, q⟩
  | [x, .ref D], ⟨.inr ⟨a, C, dx, vs, b, e, h1, h2, h3, h4, q⟩⟩ =>
    subst e
    exact SlX.call_isiSl (.ref D) pins s σ H _ us Q I r ⟨a, C, dx, vs, _, b, rfl, rfl, fun w z => z, h1, h2, h3, h4, q⟩
/-! ### methods of lists -/
/-- a list stands at p -/
structure IsL (K : Frag) (H : Hp) (p : Addr) (q : Prop) : Prop where
  ex : ∃ xs, SqL K H p xs
  q : q
theorem IsL.of {K : Frag} {H : Hp} {p : Addr} {q : Prop} {xs : List V} (h : H p = some (.lst xs)) (q1 : q) : IsL K H p q := ⟨⟨xs, SqL.of h⟩, q1⟩
def dML (K : Frag) (r : V → List V → Hp → VK → Prop) (to : TE) (t : TA) : TE := fun σ H Q => to σ H fun x H1 => match x with
  | .ref l => IsL K H1 l (t σ H1 fun vs H2 => r (.ref l) vs H2 Q)
  | _ => False
theorem pe_ml {X : Cx} {o e : Expr} {es : List Expr} {to : TE} {t : TA} {name : Str} {apos cpos : Pos} {id : String} {r : V → List V → Hp → VK → Prop} (slot : Slot "list" name id) (hty : typeOf (.builtin id) = pure (.type "method_descriptor")) (hm : MtR X id r) (ho : PE X o to) (ha : PA X (e :: es) t)
    (hbase : attributeBase o name X.env (eval o X.env) = eval o X.env := by rfl)
    (hfew : ((backTo cpos (starEach (e :: es) X.env)).all (fun x => !x.1) && (backToKw cpos (keywordEach [] X.env)).all (fun x => x.1.isSome)
      && decide ((e :: es).length + ([] : List Keyword).length + (if ([] : List Keyword).isEmpty then 0 else 1) < 30)) = true := by rfl)
    (hline : (apos.endLine == cpos.line) = true := by rfl) (hs : starEach (e :: es) X.env = (false, eval e X.env) :: starEach es X.env := by rfl) (hplain : (backTo cpos (starEach es X.env)).any (·.1) = false := by rfl) :
    PE X (.Call (.Attribute o name apos) (e :: es) [] cpos) (dML X.K r to t) := by
  refine ⟨fun pins s σ H Q I h => ?_⟩
  refine wpAny_Call_method_late hbase hfew hline rfl (thn (ho.run pins s σ H _ I h) fun v s1 ⟨x, H1, I1, r1, q1⟩ => ?_)
  cases x <;> try exact q1.elim
  obtain ⟨hx, q1⟩ := q1
  obtain ⟨h1, h2⟩ := tyV_is (T := "list") I1 r1 (.inl ⟨rfl, hx⟩)
  refine ⟨"list", id, PySem.F.plainAttrs_list, slot, hty, h1, h2, ?_⟩
  have hA := ha.run cpos pins s1 σ H1 _ I1 q1
  rw [hs] at hA ⊢
  refine Calls.callWith_builtin (by show (false || (backTo cpos (starEach es X.env)).any (·.1)) = false; rw [hplain] <;> rfl) (Calls.evalArgs_plain ?_)
  exact thn hA fun us s2 ⟨vs, H2, I2, r2, q2⟩ => hm pins s2 σ H2 _ vs _ us Q I2 r1 r2 q2
theorem pe_ml0 {X : Cx} {o : Expr} {to : TE} {name : Str} {apos cpos : Pos} {id : String} {r : V → List V → Hp → VK → Prop} (slot : Slot "list" name id) (hty : typeOf (.builtin id) = pure (.type "method_descriptor")) (hm : MtR X id r) (ho : PE X o to)
    (hbase : attributeBase o name X.env (eval o X.env) = eval o X.env := by rfl) (hline : (apos.endLine == cpos.line) = true := by rfl) : PE X (.Call (.Attribute o name apos) [] [] cpos) (dML X.K r to tNil) := by
  refine ⟨fun pins s σ H Q I h => ?_⟩
  refine wpAny_Call_method0_late hbase hline (thn (ho.run pins s σ H _ I h) fun v s1 ⟨x, H1, I1, r1, q1⟩ => ?_)
  cases x <;> try exact q1.elim
  obtain ⟨hx, q1⟩ := q1
  obtain ⟨h1, h2⟩ := tyV_is (T := "list") I1 r1 (.inl ⟨rfl, hx⟩)
  exact ⟨"list", id, PySem.F.plainAttrs_list, slot, hty, h1, h2, Calls.callWith_builtin rfl (PySem.evalArgs_none (hm pins s1 σ H1 _ [] _ [] Q I1 r1 .nil q1))⟩
theorem MtR.of {X : Cx} {id : String} {r r' : V → List V → Hp → VK → Prop} (h : MtR X id r) (i : ∀ x xs H Q, r' x xs H Q → r x xs H Q) : MtR X id r' := fun pins s σ H x xs v us Q I rx rs q => h pins s σ H x xs v us Q I rx rs (i x xs H Q q)
abbrev M2 := V → List V → Hp → VK → Prop
/-- the list at x changed -/
def mL (f : List V → List V → Hp → (V → List V → Prop) → Prop) : M2 := fun x vs H Q => match x with
  | .ref l => Ls H l fun xs => f xs vs H fun z ys => Q z (upd H l (.lst ys))
  | _ => False
def mApp : M2 := mL fun xs vs _ k => match vs with
  | [y] => Need (xs.length < sizeLine) (k .non (xs ++ [y]))
  | _ => False
theorem m_app {X : Cx} : MtR X "list.append" mApp := MtR.of mt_append fun x vs H Q q => by
  cases x <;> try exact q.elim
  match vs, q with
  | [y], ⟨⟨xs, h, ⟨hz, q⟩⟩⟩ => exact ⟨_, xs, y, rfl, rfl, h, hz, q⟩
theorem at_last {xs : List V} {y : V} (h : atI xs (-1) = some y) : xs[xs.length - 1]? = some y := by
  unfold atI ixN at h
  rw [if_neg (by decide)] at h
  by_cases hn : -(xs.length : Int) ≤ -1
  · rw [if_pos hn, Option.bind_some] at h
    have e : (-1 + (xs.length : Int)).toNat = xs.length - 1 := by omega
    rw [e] at h
    exact h
  · rw [if_neg hn] at h
    cases h
def mPop : M2 := mL fun xs vs _ k => match vs with
  | [] => At xs (-1) fun y => k y xs.dropLast
  | _ => False
theorem m_pop {X : Cx} : MtR X "list.pop" mPop := MtR.of mt_pop fun x vs H Q q => by
  cases x <;> try exact q.elim
  match vs, q with
  | [], ⟨⟨xs, h, ⟨y, hy, q⟩⟩⟩ => exact ⟨_, xs, y, rfl, rfl, h, at_last hy, q⟩
def mRev : M2 := mL fun xs vs _ k => match vs with
  | [] => k .non xs.reverse
  | _ => False
theorem m_rev {X : Cx} : MtR X "list.reverse" mRev := MtR.of mt_reverse fun x vs H Q q => by
  cases x <;> try exact q.elim
  match vs, q with
  | [], ⟨⟨xs, h, q⟩⟩ => exact ⟨_, xs, rfl, rfl, h, q⟩
def mIns : M2 := mL fun xs vs _ k => match vs with
  | [.int i, y] => Need (xs.length < sizeLine ∧ 0 ≤ i ∧ i < 2 ^ 63) (k .non (xs.take i.toNat ++ [y] ++ xs.drop i.toNat))
  | _ => False
theorem m_ins {X : Cx} : MtR X "list.insert" mIns := MtR.of mt_insert fun x vs H Q q => by
  cases x <;> try exact q.elim
  match vs, q with
  | [.int i, y], ⟨⟨xs, h, ⟨⟨hz, h0, h1⟩, q⟩⟩⟩ => exact ⟨_, xs, i, y, rfl, rfl, h, hz, h0, h1, q⟩
def mExt : M2 := mL fun xs vs H k => match vs with
  | [.ref b] => Ls H b fun zs => Need (xs.length + zs.length ≤ sizeLine) (k .non (xs ++ zs))
  | _ => False
theorem m_ext {X : Cx} : MtR X "list.extend" mExt := MtR.of mt_extend fun x vs H Q q => by
  cases x <;> try exact q.elim
  match vs, q with
  | [.ref b], ⟨⟨xs, h, ⟨⟨zs, h2, ⟨hz, q⟩⟩⟩⟩⟩ => exact ⟨_, b, xs, zs, rfl, rfl, h, h2, hz, q⟩
/-! ### stores -/
/-- the place i in n -/
structure Pl (n : Nat) (i : Int) (k : Nat → Prop) : Prop where
  ex : ∃ j, ixN n i = some j ∧ k j
theorem Pl.of {n : Nat} {i : Int} {k : Nat → Prop} {j : Nat} (h : ixN n i = some j) (q : k j) : Pl n i k := ⟨j, h, q⟩
def oSet : V → V → V → Hp → (Hp → Prop) → Prop := fun o i v H Q => match o, i with
  | .ref p, .int k => Ls H p fun xs => Pl xs.length k fun j => Q (upd H p (.lst (xs.set j v)))
  | _, _ => False
theorem s_list {X : Cx} : PSet X oSet := fun pins s σ H o i v uo ui uv Q I ro ri rv q => by
  cases o <;> cases i <;> try exact q.elim
  obtain ⟨⟨xs, h, ⟨j, e, q⟩⟩⟩ := q
  exact set_list pins s σ H _ _ v uo ui uv Q I ro ri rv ⟨_, xs, _, j, rfl, rfl, h, e, q⟩
/-! ### loops over a list or a tuple -/
/-- the list or the tuple at a is walked -/
structure Walk (K : Frag) (H : Hp) (a : Addr) (R : It → Hp → Prop) : Prop where
  ex : ((∃ xs, SqL K H a xs) ∧ R (Itl K a) H) ∨ ((∃ xs, SqT K H a xs) ∧ R (Itt K a) H)
def iSm (K : Frag) (x : V) (H : Hp) (R : It → Hp → Prop) : Prop := match x with
  | .ref a => Walk K H a R
  | _ => False
def iSeq (K : Frag) (tl : TE) : TI := fun σ H R => tl σ H fun x H1 => iSm K x H1 R
theorem pi_seq {X : Cx} {tg l : Expr} {tl : TE} (hl : PE X l tl) : PI X tg l (iSeq X.K tl) := by
  refine ⟨fun pins s σ H R I h => ?_⟩
  refine thn (hl.run pins s σ H _ I h) fun v s1 ⟨x, H1, I1, r1, q1⟩ => ?_
  cases x <;> try exact q1.elim
  cases r1
  rcases q1.ex with ⟨⟨xs, hq⟩, q⟩ | ⟨⟨xs, hq⟩, q⟩
  · obtain ⟨its, rv, p, hz⟩ := I1.list hq
    refine wpAny_pyIter_list p.isList ?_
    refine ⟨s1.heap.objs.size, [s1.heap.objs.size], _, _, H1, rfl, I1.kept (t' := s1.toks) fun b o e => Heap.get?_push_of_some _ e, turn_list _ _, ⟨_, Heap.get?_push_size _ rfl, rfl, rfl⟩, fun b hb => ?_, q⟩
    have e : b = s1.heap.objs.size := by simpa using hb
    subst e
    exact I1.fpOk (Nat.le_refl _) (I1.hok.fresh (Nat.le_refl _))
  · obtain ⟨its, rv, p, hz⟩ := I1.tuple hq
    refine wpAny_pyIter_tuple (show s1.heap.IsTuple _ its.toArray from p) ?_
    refine ⟨s1.heap.objs.size, [s1.heap.objs.size], _, _, H1, rfl, I1.kept (t' := s1.toks) fun b o e => Heap.get?_push_of_some _ e, turn_tuple _ _, ⟨_, Heap.get?_push_size _ rfl, rfl, rfl⟩, fun b hb => ?_, q⟩
    have e : b = s1.heap.objs.size := by simpa using hb
    subst e
    exact I1.fpOk (Nat.le_refl _) (I1.hok.fresh (Nat.le_refl _))
/-- what a loop asks of its walk -/
def LoopR (D : Ends) (g : TG) (tb : TS) (σ : L2.St) : It → Hp → Prop := fun J H1 => ∃ W : Nat → Nat → L2.St → Hp → Prop, (∃ m, W 0 m σ H1) ∧ ∀ i m σ H, W i m σ H →
  (J.stop i H ∧ D.nx σ H) ∨ (J.go i H ∧ ∃ N : L2.St → Hp → Prop, (∀ σ' H', N σ' H' → ∃ m', m' < m ∧ W (i + 1) m' σ' H') ∧ ∀ x H', J.yld i H x H' → g x σ H' fun σ2 H2 => tb { D with nx := N, ct := N, bk := D.nx } σ2 H2)
def dFor (wi : TI) (g : TG) (tb : TS) : TS := fun D σ H => wi σ H (LoopR D g tb σ)
theorem ps_for {X : Cx} {tg iter : Expr} {body : List Stmt} {wi : TI} {g : TG} {tb : TS} {pos : Pos} (hp : PassesOwn (model X.prog X.w) X.A X.env X.xe) (hc : X.calm = true) (hi : PI X tg iter wi) (hg : PG X tg g) (hb : PSs X body tb)
    (hs : ∀ x, foldedSetIterable iter X.env x = pure x := by intro _; rfl) : PS X (.For tg iter body [] pos) (dFor wi g tb) := L2.ps_for hp hc hi hg hb hs
/-- the sequence at p stands as it stood -/
def Stay (K : Frag) (p : Addr) (H H' : Hp) : Prop := ∀ xs, (SqL K H p xs → SqL K H' p xs) ∧ (SqT K H p xs → SqT K H' p xs)
theorem Same.tup {K : Frag} {H H' : Hp} {a : Addr} {xs : List V} (e : Same H H') (h : SqT K H a xs) : SqT K H' a xs := by
  rcases h with (h | ⟨o, h⟩) | h
  · exact .inl (.inl (e _ _ h))
  · exact .inl (.inr ⟨o, e _ _ h⟩)
  · exact .inr h
theorem Same.sqa {K : Frag} {H H' : Hp} {a : Addr} {xs : List V} (e : Same H H') (h : SqA K H a xs) : SqA K H' a xs := h.imp e.seq (Same.tup e)
theorem Same.stay {K : Frag} {H H' : Hp} {a : Addr} (e : Same H H') : Stay K a H H' := fun _ => ⟨e.seq, Same.tup e⟩
/-- all but what stands at st stays -/
def SameX (st : Addr) (H H' : Hp) : Prop := ∀ b o, H b = some o → b ≠ st → H' b = some o
theorem SameX.refl (st : Addr) (H : Hp) : SameX st H H := fun _ _ h _ => h
theorem SameX.trans {st : Addr} {H H1 H2 : Hp} (a : SameX st H H1) (b : SameX st H1 H2) : SameX st H H2 := fun c o h n => b c o (a c o h n) n
theorem SameX.then {st : Addr} {H H1 H2 : Hp} (a : SameX st H H1) (b : Same H1 H2) : SameX st H H2 := fun c o h n => b c o (a c o h n)
theorem Same.thenX {st : Addr} {H H1 H2 : Hp} (a : Same H H1) (b : SameX st H1 H2) : SameX st H H2 := fun c o h n => b c o (a c o h) n
theorem Same.x {st : Addr} {H H1 : Hp} (a : Same H H1) : SameX st H H1 := fun c o h _ => a c o h
theorem SameX.upd {st : Addr} {H : Hp} {o : HO} : SameX st H (upd H st o) := fun b u h n => by rw [upd_ne n]; exact h
/-- what st was made behind H0 -/
theorem SameX.same {st : Addr} {H0 H H' : Hp} (a : Same H0 H) (b : SameX st H H') (n : H0 st = none) : Same H0 H' := fun c o h => b c o (a c o h) (ne_of_none h n)
theorem SameX.seq {K : Frag} {st : Addr} {H H' : Hp} {a : Addr} {xs : List V} (e : SameX st H H') (h : SqL K H a xs) (n : a ≠ st) : SqL K H' a xs := by
  rcases h with (h | ⟨o, h⟩) | h
  · exact .inl (.inl (e _ _ h n))
  · exact .inl (.inr ⟨o, e _ _ h n⟩)
  · exact .inr h
theorem SameX.tup {K : Frag} {st : Addr} {H H' : Hp} {a : Addr} {xs ys : List V} (e : SameX st H H') (h : SqT K H a xs) (hst : H st = some (.lst ys)) : SqT K H' a xs := by
  rcases h with (h | ⟨o, h⟩) | h
  · exact .inl (.inl (e _ _ h (ne_of h hst (by intro z; cases z))))
  · exact .inl (.inr ⟨o, e _ _ h (ne_of h hst (by intro z; cases z))⟩)
  · exact .inr h
theorem sl_upd {K : Frag} {H : Hp} {a p : Addr} {o : HO} {xs : List V} (h : SqL K H a xs) (n : a ≠ p) : SqL K (upd H p o) a xs := by
  rcases h with (h | ⟨u, h⟩) | h
  · exact .inl (.inl (by rw [upd_ne n]; exact h))
  · exact .inl (.inr ⟨u, by rw [upd_ne n]; exact h⟩)
  · exact .inr h
theorem st_upd {K : Frag} {H : Hp} {a p : Addr} {o : HO} {xs : List V} (h : SqT K H a xs) (n : a ≠ p) : SqT K (upd H p o) a xs := by
  rcases h with (h | ⟨u, h⟩) | h
  · exact .inl (.inl (by rw [upd_ne n]; exact h))
  · exact .inl (.inr ⟨u, by rw [upd_ne n]; exact h⟩)
  · exact .inr h
theorem up_of {H : Hp} {a p : Addr} {o u : HO} (n : a ≠ p) (h : H a = some u) : upd H p o a = some u := by rw [upd_ne n]; exact h
theorem SameX.put {st : Addr} {H0 H1 : Hp} {o : HO} (e : SameX st H0 H1) : SameX st H0 (L2.upd H1 st o) := e.trans SameX.upd
theorem appS {K : Frag} {H H1 : Hp} {a st : Addr} {xs : List V} (h : ∀ H1, SameX st H H1 → SqL K H1 a xs) (e : SameX st H H1) : SqL K H1 a xs := h H1 e
/-- over a list or a tuple that the body leaves as it is -/
theorem for_seq {K : Frag} {p : Addr} {xs : List V} {g : TG} {tb : TS} {D : Ends} {σ : L2.St} {H : Hp} (Pv : Nat → L2.St → Hp → Prop) (hx : SqA K H p xs) (h0 : Pv 0 σ H) (hl : ∀ i σ H', i ≤ xs.length → Pv i σ H' → Stay K p H H')
    (hs : ∀ i x σ H, xs[i]? = some x → Pv i σ H → g x σ H fun σ2 H2 => tb { D with nx := Pv (i + 1), ct := Pv (i + 1), bk := D.nx } σ2 H2) (hd : ∀ σ H, Pv xs.length σ H → D.nx σ H) :
    Walk K H p (LoopR D g tb σ) := by
  rcases hx with hx | hx
  · exact ⟨.inl ⟨⟨xs, hx⟩, for_list Pv h0 (fun i σ H' hi q => (hl i σ H' hi q xs).1 hx) hs hd⟩⟩
  · exact ⟨.inr ⟨⟨xs, hx⟩, for_tup Pv h0 (fun i σ H' hi q => (hl i σ H' hi q xs).2 hx) hs hd⟩⟩
/-! ### ranges -/
def iR1 (vs : List V) (H : Hp) (R : It → Hp → Prop) : Prop := match vs with
  | [.int j] => Need (-(2 ^ 62) ≤ j ∧ j < 2 ^ 62) (R (Itr 0 j.toNat) H)
  | _ => False
def iRng (ta : TA) : TI := fun σ H R => ta σ H fun vs H1 => iR1 vs H1 R
theorem pi_rng {X : Cx} {tg a : Expr} {ta : TA} {p pos : Pos} (hg : Gl X "range") (hm : X.mg "range" = none) (ha : PA X [a] ta) (hs : starEach [a] X.env = [(false, eval a X.env)] := by rfl) : PI X tg (.Call (.Name "range" p) [a] [] pos) (iRng ta) := by
  refine ⟨fun pins s σ H R I h => ?_⟩
  refine Call_ (ld_blt I hg hm boot_range (PyProof.Rows.callWith_type1 (thn (ha.run pos pins s σ H _ I h) fun us s1 ⟨vs, H1, I1, r1, q1⟩ => ?_) hs rfl))
  match vs, q1 with
  | [.int j], ⟨⟨q1, q2⟩, q⟩ =>
    cases r1 with
    | cons r rr =>
      cases rr
      obtain ⟨t, rfl⟩ := r
      exact call_range_1 (range_it I1 (by omega) (by omega) q1 q2 (by simpa using q))
def iR2 (vs : List V) (H : Hp) (R : It → Hp → Prop) : Prop := match vs with
  | [.int i, .int j] => Need (-(2 ^ 62) ≤ i ∧ i < 2 ^ 62 ∧ -(2 ^ 62) ≤ j ∧ j < 2 ^ 62) (R (Itr i (j - i).toNat) H)
  | _ => False
def iRngB (ta : TA) : TI := fun σ H R => ta σ H fun vs H1 => iR2 vs H1 R
theorem pi_rngB {X : Cx} {tg a b : Expr} {ta : TA} {p pos : Pos} (hg : Gl X "range") (hm : X.mg "range" = none) (ha : PA X [a, b] ta) (hs : starEach [a, b] X.env = [(false, eval a X.env), (false, eval b X.env)] := by rfl) (hs2 : starEach [b] X.env = [(false, eval b X.env)] := by rfl) :
    PI X tg (.Call (.Name "range" p) [a, b] [] pos) (iRngB ta) := by
  refine ⟨fun pins s σ H R I h => ?_⟩
  refine Call_ (ld_blt I hg hm boot_range (PyProof.Rows.callWith_type1 (thn (ha.run pos pins s σ H _ I h) fun us s1 ⟨vs, H1, I1, r1, q1⟩ => ?_) (by rw [hs, hs2]) (by rw [hs2]; rfl)))
  match vs, q1 with
  | [.int i, .int j], ⟨⟨q1, q2, q3, q4⟩, q⟩ =>
    cases r1 with
    | cons r rr =>
      cases rr with
      | cons r' rr =>
        cases rr
        obtain ⟨t, rfl⟩ := r
        obtain ⟨t', rfl⟩ := r'
        exact call_range_2 (range_it I1 q1 q2 q3 q4 q)
theorem for_rngB {a b : Int} {g : TG} {tb : TS} {D : Ends} {σ : L2.St} {H : Hp} (Pv : Nat → L2.St → Hp → Prop) (h0 : Pv 0 σ H)
    (hs : ∀ (i : Nat) σ H, a + (i : Int) < b → Pv i σ H → g (.int (a + i)) σ H fun σ2 H2 => tb { D with nx := Pv (i + 1), ct := Pv (i + 1), bk := D.nx } σ2 H2) (hd : ∀ σ H, Pv (b - a).toNat σ H → D.nx σ H) :
    LoopR D g tb σ (Itr a (b - a).toNat) H := L2.for_range (lo := a) Pv h0 (fun i σ H hi q => hs i σ H (by omega) q) hd
theorem for_rng {n : Int} {g : TG} {tb : TS} {D : Ends} {σ : L2.St} {H : Hp} (Pv : Nat → L2.St → Hp → Prop) (h0 : Pv 0 σ H)
    (hs : ∀ (i : Nat) σ H, (i : Int) < n → Pv i σ H → g (.int i) σ H fun σ2 H2 => tb { D with nx := Pv (i + 1), ct := Pv (i + 1), bk := D.nx } σ2 H2) (hd : ∀ σ H, Pv n.toNat σ H → D.nx σ H) :
    LoopR D g tb σ (Itr 0 n.toNat) H := by
  refine L2.for_range (lo := 0) Pv h0 (fun i σ H hi q => ?_) hd
  have z := hs i σ H (by omega) q
  rw [Int.zero_add]; exact z
/-! ### while -/
def WhileR (c : TT) (tb : TS) (D : Ends) (σ : L2.St) (H : Hp) : Prop := ∃ W : Nat → L2.St → Hp → Prop, (∃ m, W m σ H) ∧ ∀ m σ H, W m σ H →
  c σ H fun b H1 => bIf b (tb { D with nx := fun σ' H' => ∃ m', m' < m ∧ W m' σ' H', ct := fun σ' H' => ∃ m', m' < m ∧ W m' σ' H', bk := D.nx } σ H1) (D.nx σ H1)
structure Loop (c : TT) (tb : TS) (D : Ends) (σ : L2.St) (H : Hp) : Prop where
  ex : WhileR c tb D σ H
def dWhile (c : TT) (tb : TS) : TS := fun D σ H => Loop c tb D σ H
theorem ps_while {X : Cx} {c : Expr} {body : List Stmt} {tc : TT} {tb : TS} {pos : Pos} (hp : PassesOwn (model X.prog X.w) X.A X.env X.xe) (hc : PT X c tc) (hb : PSs X body tb) : PS X (.While c body [] pos) (dWhile tc tb) := by
  refine ⟨fun pins s σ H D I h => ?_⟩
  obtain ⟨⟨W, ⟨m0, w0⟩, turn⟩⟩ := h
  refine wpAny_While (codeAny_whileLoop (fun n s' => ∃ σ' H', Inv X pins σ' H' s' ∧ W n σ' H') ?_ m0 ⟨σ, H, I, w0⟩)
  rintro n s1 ⟨σ1, H1, I1, w1⟩
  refine wpAny_passesOwn hp (thn (hc.run pins s1 σ1 H1 _ I1 (turn n σ1 H1 w1)) fun b s2 ⟨H2, I2, q2⟩ => ?_)
  cases b with
  | true =>
    rw [if_pos rfl]
    refine wpAny_passesOwn hp (thn (hb.run pins s2 σ1 H2 _ I2 q2) fun f s3 q3 => ?_)
    cases f with
    | next =>
      obtain ⟨σ3, H3, I3, m', hm, w3⟩ := q3
      exact ⟨m', hm, σ3, H3, I3, w3⟩
    | cont =>
      obtain ⟨σ3, H3, I3, m', hm, w3⟩ := q3
      exact ⟨m', hm, σ3, H3, I3, w3⟩
    | brk => exact q3
    | ret v => exact q3
  | false =>
    rw [if_neg Bool.false_ne_true]
    exact wpAny_execs_nil ⟨σ1, H2, I2, q2⟩
/-! ### calls of the module's defs, by positional promises -/
/-- f(e, ..): what is raised is wished for at the caller's slots -/
def dCall (sp : Sp) (E : L2.St → XK) (t : TA) : TE := fun σ H Q => t σ H fun vs H1 => sp vs H1 Q (E σ)
section
variable {X : Cx} {k : Nat} {g : Addr} {sp : Sp} {E : L2.St → XK} {x : Str} {p pos : Pos} {e : Expr} {es : List Expr} {t : TA}
theorem run_R {pins : List (Addr × Obj)} {σ : L2.St} {H : Hp} {s : Shared} {Q : VK} {us : List Value} {vs : List V} (F : FnR X.prog X.w X.K X.mg X.base (L2.CX X.prog X.w) k g sp) (hr : Room k X.A) (hx : PassesAt (L2.CX X.prog X.w) X σ (E σ))
    (I : Inv X pins σ H s) (r : Vals vs us) (h : sp vs H Q (E σ)) : wpAny (model X.prog X.w) X.A (call (.ref g) us) (EP X pins σ Q) X.xe s := by
  refine wpAny_call (codeAny_mono (F X.A X.stack s H us vs Q (E σ) hr I.env0 r h) fun r s' hq => ?_)
  cases r with
  | error e => exact hx pins H s e s' I hq
  | ok fl =>
    cases fl with
    | ret u => exact I.after hq
    | next => exact False.elim hq
    | brk => exact False.elim hq
    | cont => exact False.elim hq
theorem pe_call (F : FnR X.prog X.w X.K X.mg X.base (L2.CX X.prog X.w) k g sp) (hr : Room k X.A) (hm : X.mg x = some (.ref g)) (hk : PySem.W.keepIn X.K (.ref g) = true) (hx : ∀ σ, PassesAt (L2.CX X.prog X.w) X σ (E σ))
    (ha : PA X (e :: es) t) (hg : Gl X x := by rfl) (hdb : (x == ("__debug__" : Str)) = false := by decide) (he : starEach (e :: es) X.env = (false, eval e X.env) :: starEach es X.env := by rfl) (hpl : (backTo pos (starEach es X.env)).any (·.1) = false := by rfl) :
    PE X (.Call (.Name x p) (e :: es) [] pos) (dCall sp E t) := by
  refine ⟨fun pins s σ H Q I h => ?_⟩
  refine wpAny_Call_Name_kw (ld_glob I hg hm ?_ hdb)
  refine PySem.W.callWith_K (h₀ := X.base) I.ok.mod.kin hk (thn (ha.run pos pins s σ H _ I h) fun us s1 ⟨vs, H1, I1, r, q⟩ => ⟨I1.kIn, ?_⟩) he hpl
  exact run_R F hr (hx σ) I1 r q
end
/-- f(e, ..), f a built-in function | type -/
theorem pe_cb {X : Cx} {x : Str} {p pos : Pos} {e : Expr} {es : List Expr} {t : TA} {id : String} {r : List V → Hp → VK → Prop} (hc : CallR X (.builtin id) r) (hm : X.mg x = none) (hv : bootBuiltins x = some (.builtin id)) (ha : PA X (e :: es) t) (hg : Gl X x := by rfl) (hn : x ≠ "__name__" := by decide) (hdb : (x == ("__debug__" : Str)) = false := by decide)
    (he : starEach (e :: es) X.env = (false, eval e X.env) :: starEach es X.env := by rfl) (hpl : (backTo pos (starEach es X.env)).any (·.1) = false := by rfl) : PE X (.Call (.Name x p) (e :: es) [] pos) (tCB r t) := pe_callB hc hg hm hv ha hn hdb he hpl
theorem pe_ct {X : Cx} {x : Str} {p pos : Pos} {e : Expr} {es : List Expr} {t : TA} {T : String} {r : List V → Hp → VK → Prop} (hc : CallR X (.type T) r) (hm : X.mg x = none) (hv : bootBuiltins x = some (.type T)) (ha : PA X (e :: es) t) (hg : Gl X x := by rfl) (hn : x ≠ "__name__" := by decide) (hdb : (x == ("__debug__" : Str)) = false := by decide)
    (he : starEach (e :: es) X.env = (false, eval e X.env) :: starEach es X.env := by rfl) (hpl : (backTo pos (starEach es X.env)).any (·.1) = false := by rfl) : PE X (.Call (.Name x p) (e :: es) [] pos) (tCB r t) := pe_callTy hc hg hm hv ha hn hdb he hpl
/-- a built-in's name as a value -/
theorem pe_bt {X : Cx} {x : Str} {n : String} {pos : Pos} (hm : X.mg x = none) (hv : bootBuiltins x = some (.type n)) (hg : Gl X x := by rfl) (hn : x ≠ "__name__" := by decide) (hd : (x == ("__debug__" : Str)) = false := by decide) : PE X (.Name x pos) (tC (.ty n)) := pe_bltn hg hm hv rfl hn hd
/-! ### a def by its body -/
section
variable {P : Program} {w : World} {K : Frag} {mg : Str → Option Value} {base : Heap}
abbrev FR (P : Program) (w : World) (K : Frag) (mg : Str → Option Value) (base : Heap) (k : Nat) (f : Addr) (sp : Sp) : Prop := FnR P w K mg base (L2.CX P w) k f sp
/-- the context of a def's body -/
abbrev cxD (P : Program) (w : World) (K : Frag) (mg : Str → Option Value) (base : Heap) (N : List Str) (qual : Str) (scope : Scope) (f : Addr) (cd : Value) (A : Around) (outer : List Env) (s : Shared) (H : Hp) (E : XK) : Cx := cxOf (L2.CX P w) P w K mg base N qual scope f cd A outer s H E
theorem mk_fn {x qual : Str} {params : Arguments} {body : List Stmt} {scope : Scope} {f : Addr} {fd : FuncData} {N ps : List Str} {k : Nat} {sp : Sp} (F : FunD K x qual params body scope [] [] f fd) (S : FnScope N ps scope) (len : ∀ vs H Q E, sp vs H Q E → vs.length = ps.length)
    (hb : ∀ (kV doc pm : Value) (an : Option Addr) (cdv ct : Value) (us : List Value), us.length = ps.length → bindArgs (PySem.W.fnOf x qual params body scope .none kV doc pm an cdv ct) ⟨us, []⟩ = pure (ps.zip us)) {t : XK → TS}
    (hbody : ∀ (cdv : Value) (A : Around) (outer : List Env) (s : Shared) (H : Hp) (E : XK), Room k (A.deeper (envOfC qual scope s.heap.objs.size f cdv)) →
      PSs (cxD P w K mg base N qual scope f cdv A outer s H E) body (t E))
    (pure : ∀ vs H Q E, sp vs H Q E → t E { nx := fun _ H' => Q .non H', rt := Q } (start N vs) H) : FR P w K mg base (k + 1) f sp := by
  have z := (FunD.ok (P := P) (w := w) (mg := mg) (base := base) (CX := L2.CX P w) (sp := sp) F S len fun cdv A outer s H vs Q E hr h => ⟨t E, hbody cdv A outer s H E hr, pure vs H Q E h⟩).raw (F.bindsN hb) .nil
  intro A outer s H us vs Q E hr e0 r hs
  exact z A outer s H us vs Q E hr e0 r (by show sp (vs ++ []) H Q E; rw [List.append_nil]; exact hs)
end
/-- the wish of a def's body: what leaves it leaves the def -/
abbrev EW (E : XK) : L2.St → XK := fun _ => E
theorem passD {P : Program} {w : World} {K : Frag} {mg : Str → Option Value} {base : Heap} {N : List Str} {qual : Str} {scope : Scope} {f : Addr} {cd : Value} {A : Around} {outer : List Env} {s : Shared} {H : Hp} {E : XK} :
    ∀ σ, PassesAt (L2.CX P w) (cxD P w K mg base N qual scope f cd A outer s H E) σ (EW E σ) := fun σ => passAt (takes_of rfl rfl rfl rfl) σ
theorem ownD {P : Program} {w : World} {K : Frag} {mg : Str → Option Value} {base : Heap} {N : List Str} {qual : Str} {scope : Scope} {f : Addr} {cd : Value} {A : Around} {outer : List Env} {s : Shared} {H : Hp} {E : XK} :
    PassesOwn (model P w) (cxD P w K mg base N qual scope f cd A outer s H E).A (cxD P w K mg base N qual scope f cd A outer s H E).env (cxD P w K mg base N qual scope f cd A outer s H E).xe := passes_of rfl
/-! ### named rests: the walk stops there -/
structure Stop (t : TS) (D : Ends) (σ : L2.St) (H : Hp) : Prop where
  go : t D σ H
def stop (t : TS) : TS := fun D σ H => Stop t D σ H
theorem pss_stop {X : Cx} {st : List Stmt} {t : TS} (h : PSs X st t) : PSs X st (stop t) := ⟨fun pins s σ H D I q => h.run pins s σ H D I q.go⟩
/-! ### the law's own def: nothing leaves it -/
theorem passL0 {X : Cx} : ∀ σ, PassesAt (L2.CX X.prog X.w) X σ (EW E0 σ) := fun _ _ _ _ _ _ _ h => by
  obtain ⟨_, _, _, _, _, _, _, _, _, _, _, _, z⟩ := h
  exact z.elim
theorem mk_law {P : Program} {w : World} {K : Frag} {mg : Str → Option Value} {base : Heap} {x qual : Str} {params : Arguments} {body : List Stmt} {scope : Scope} {f : Addr} {fd : FuncData} {N ps : List Str} {k : Nat} {sp : Sp} (F : FunD K x qual params body scope [] [] f fd) (S : FnScope N ps scope) (len : ∀ vs H Q E, sp vs H Q E → vs.length = ps.length)
    {t : XK → TS} (hbody : ∀ (cdv : Value) (A : Around) (outer : List Env) (s : Shared) (H : Hp) (E : XK), Room k (A.deeper (envOfC qual scope s.heap.objs.size f cdv)) →
      PSs (cxOf CX0 P w K mg base N qual scope f cdv A outer s H E).nox body (t E0))
    (pure : ∀ vs H Q E, sp vs H Q E → t E0 { nx := fun _ H' => Q .non H', rt := Q } (start N vs) H) : FnOk P w K mg base CX0 (k + 1) f fd ps sp :=
  FunD.ok F S len fun cdv A outer s H vs Q E hr h => ⟨t E0, PSs.nox (hbody cdv A outer s H E hr), pure vs H Q E h⟩
/-! ### comprehensions with one for -/
structure Wr (R : It → Hp → Prop) (J : It) (H : Hp) : Prop where
  go : R J H
theorem pi_wr {X : Cx} {tg iter : Expr} {wi : TI} (h : PI X tg iter wi) : PI X tg iter (fun σ H R => wi σ H (Wr R)) := ⟨fun pins s σ H R I q =>
  thn (h.run pins s σ H (Wr R) I q) fun _ _ z => thn z fun _ _ ⟨it, fp, tn, J, H', e, I', T, t0, f, r⟩ => ⟨it, fp, tn, J, H', e, I', T, t0, f, r.go⟩⟩
def LcGo (g : TG) (tt : TT) (te : TE) (vs : List Nat) (σ : L2.St) (Q : VK) (J : It) (H1 : Hp) : Prop :=
  ∀ D, H1 D = none → ∃ W : Nat → Nat → Hp → Prop, (∃ m, W 0 m (upd H1 D (.lst []))) ∧ ∀ i m H, W i m H →
    (J.stop i H ∧ Q (.ref D) H) ∨ (J.go i H ∧ ∃ Nx : Hp → Prop, (∀ H', Nx H' → ∃ m', m' < m ∧ W (i + 1) m' H') ∧ ∀ x H', J.yld i H x H' → g x (wipe σ vs) H' fun σ2 H2 => wipe σ2 vs = wipe σ vs ∧ tt σ2 H2 fun b H3 =>
      if b = true then te σ2 H3 fun y H4 => ∃ acc, H4 D = some (.lst acc) ∧ acc.length < sizeLine ∧ Nx (upd H4 D (.lst (acc ++ [y]))) else Nx H3)
def dLc (wi : TI) (g : TG) (tt : TT) (te : TE) (vs : List Nat) : TE := fun σ H Q => wi σ H (Wr (LcGo g tt te vs σ Q))
theorem pe_lc {X : Cx} {elt tg iter : Expr} {ifs : List Expr} {scope : Scope} {own : List (Str × Nat)} {pos : Pos} {wi : TI} {g : TG} {tt : TT} {te : TE} (hc : X.calm = true) (hN : X.N.Nodup) (hi : PI X tg iter wi) (ok : BlkOk X.N X.env.scope scope own)
    (hg : ∀ (s : Shared) (H : Hp) (C : Addr) (cl : List (Str × Addr)) (fp : List Addr), PG (X.blk s H scope (compEnvC scope cl C X.env) fp) tg g) (ht : ∀ (s : Shared) (H : Hp) (C : Addr) (cl : List (Str × Addr)) (fp : List Addr), PTs (X.blk s H scope (compEnvC scope cl C X.env) fp) ifs tt)
    (he : ∀ (s : Shared) (H : Hp) (C : Addr) (cl : List (Str × Addr)) (fp : List Addr), PE (X.blk s H scope (compEnvC scope cl C X.env) fp) elt te) (hs : ∀ x, foldedSetIterable iter X.env x = pure x := by intro _; rfl) :
    PE X (.ListComp elt [⟨tg, iter, ifs, 0⟩] scope pos) (dLc wi g tt te (own.map (·.2))) := L2.pe_lc hc hN (pi_wr hi) ok hg ht he hs
theorem ps_setLc {X : Cx} {i : Nat} {y : Str} {py : Pos} {elt tg iter : Expr} {ifs : List Expr} {scope : Scope} {own : List (Str × Nat)} {pos spos : Pos} {wi : TI} {g : TG} {tt : TT} {te : TE} (hc : X.calm = true) (hN : X.N.Nodup) (hy : X.N[i]? = some y) (hyl : X.env.scope.names.lookup y = some .local)
    (hsw : swapsWith (.ListComp elt [⟨tg, iter, ifs, 0⟩] scope pos) (some (.Name y py)) spos.line X.env = pure true) (hi : PI X tg iter wi) (ok : BlkOk X.N X.env.scope scope own)
    (hg : ∀ (s : Shared) (H : Hp) (C : Addr) (cl : List (Str × Addr)) (fp : List Addr), PG (X.blk s H scope (compEnvC scope cl C X.env) fp) tg g) (ht : ∀ (s : Shared) (H : Hp) (C : Addr) (cl : List (Str × Addr)) (fp : List Addr), PTs (X.blk s H scope (compEnvC scope cl C X.env) fp) ifs tt)
    (he : ∀ (s : Shared) (H : Hp) (C : Addr) (cl : List (Str × Addr)) (fp : List Addr), PE (X.blk s H scope (compEnvC scope cl C X.env) fp) elt te) (hs : ∀ x, foldedSetIterable iter X.env x = pure x := by intro _; rfl) :
    PS X (.Assign [.Name y py] (.ListComp elt [⟨tg, iter, ifs, 0⟩] scope pos) spos) (tAsg (dLc wi g tt te (own.map (·.2))) (gName i)) := L2.ps_setLc hc hN hy hyl hsw (pi_wr hi) ok hg ht he hs
theorem ifc {c : Prop} [Decidable c] {A B : Prop} (h1 : c → A) (h2 : ¬ c → B) : if decide c = true then A else B := by
  by_cases h : c
  · rw [decide_eq_true h]; exact iteT (h1 h)
  · rw [decide_eq_false h]; exact iteF (h2 h)
/-- over a list or a tuple, by a word over (turn, heap): the new list stands at D -/
theorem lc_seq {K : Frag} {p : Addr} {xs : List V} {g : TG} {tt : TT} {te : TE} {vs : List Nat} {σ : L2.St} {H1 : Hp} {Q : VK} (hx : SqA K H1 p xs)
    (h : ∀ D, H1 D = none → ∃ Pv : Nat → Hp → Prop, Pv 0 (upd H1 D (.lst [])) ∧ (∀ i H, i ≤ xs.length → Pv i H → ∀ ys, (SqL K H1 p ys → SqL K H p ys) ∧ (SqT K H1 p ys → SqT K H p ys)) ∧
      (∀ i x H, xs[i]? = some x → Pv i H → g x (wipe σ vs) H fun σ2 H2 => wipe σ2 vs = wipe σ vs ∧ tt σ2 H2 fun b H3 =>
        if b = true then te σ2 H3 fun y H4 => ∃ acc, H4 D = some (.lst acc) ∧ acc.length < sizeLine ∧ Pv (i + 1) (upd H4 D (.lst (acc ++ [y]))) else Pv (i + 1) H3) ∧ (∀ H, Pv xs.length H → Q (.ref D) H)) :
    Walk K H1 p (Wr (LcGo g tt te vs σ Q)) := by
  rcases hx with hx | hx
  · refine ⟨.inl ⟨⟨xs, hx⟩, ⟨fun D hD => ?_⟩⟩⟩
    obtain ⟨Pv, h0, hl, hs, hd⟩ := h D hD
    exact lc_list (Qd := fun H => Q (.ref D) H) Pv h0 (fun i H hi q => (hl i H hi q xs).1 hx) hs hd
  · refine ⟨.inr ⟨⟨xs, hx⟩, ⟨fun D hD => ?_⟩⟩⟩
    obtain ⟨Pv, h0, hl, hs, hd⟩ := h D hD
    exact lc_tup (Qd := fun H => Q (.ref D) H) Pv h0 (fun i H hi q => (hl i H hi q xs).2 hx) hs hd
/-- all but lists stays (dicts too) -/
def SameI (H H' : Hp) : Prop := ∀ b o, H b = some o → (∀ l, o ≠ .lst l) → H' b = some o
theorem Same.i {H H' : Hp} (e : Same H H') : SameI H H' := fun b o h _ => e b o h
theorem SameI.trans {H H1 H2 : Hp} (a : SameI H H1) (b : SameI H1 H2) : SameI H H2 := fun c o h n => b c o (a c o h n) n
theorem SameI.lst {H : Hp} {p : Addr} {xs ys : List V} (h : H p = some (.lst xs)) : SameI H (L2.upd H p (.lst ys)) := fun b o hb n => by
  by_cases e : b = p
  · subst e; rw [h] at hb; exact absurd (Option.some.inj hb).symm (n xs)
  · rw [upd_ne e]; exact hb
theorem SameX.i {st : Addr} {H H' : Hp} {xs : List V} (e : SameX st H H') (h : H st = some (.lst xs)) : SameI H H' := fun b o hb n => e b o hb fun z => by
  subst z; rw [h] at hb; exact n xs (Option.some.inj hb).symm
theorem SameI.tup {K : Frag} {H H' : Hp} {a : Addr} {xs : List V} (e : SameI H H') (h : SqT K H a xs) : SqT K H' a xs := by
  rcases h with (h | ⟨o, h⟩) | h
  · exact .inl (.inl (e _ _ h fun _ z => by cases z))
  · exact .inl (.inr ⟨o, e _ _ h fun _ z => by cases z⟩)
  · exact .inr h
theorem take_filter {xs : List V} {pr : V → Bool} {i : Nat} {x : V} (h : xs[i]? = some x) : (xs.take (i + 1)).filter pr = (xs.take i).filter pr ++ (if pr x = true then [x] else []) := by
  rw [List.take_succ, h, List.filter_append]
  congr 1
  show [x].filter pr = _
  by_cases e : pr x = true <;> simp [e]
/-- .. whose test is told by a function of the item, its elements by a relation -/
theorem lc_rel {K : Frag} {p : Addr} {xs : List V} {g : TG} {tt : TT} {te : TE} {vs : List Nat} {σ : L2.St} {H1 : Hp} {Q : VK} (R : V → V → Hp → Prop) (pr : V → Bool) (hx : SqA K H1 p xs) (hz : xs.length < sizeLine) (mono : ∀ x y H H', R x y H → SameI H H' → R x y H')
    (hs : ∀ x H (A : V → Hp → Prop) (B : Hp → Prop), x ∈ xs → Same H1 H → (∀ y H', Same H H' → R x y H' → pr x = true → A y H') → (∀ H', Same H H' → pr x = false → B H') →
      g x (wipe σ vs) H fun σ2 H2 => wipe σ2 vs = wipe σ vs ∧ tt σ2 H2 fun b H3 => if b = true then te σ2 H3 A else B H3)
    (hd : ∀ D ys H', H1 D = none → H' D = some (.lst ys) → Paired (fun x y => R x y H') (xs.filter pr) ys → Same H1 H' → Q (.ref D) H') :
    Walk K H1 p (Wr (LcGo g tt te vs σ Q)) := by
  refine lc_seq hx fun D hD => ⟨fun i H => ∃ ys, H D = some (.lst ys) ∧ Paired (fun x y => R x y H) ((xs.take i).filter pr) ys ∧ Same H1 H, ⟨[], upd_same, .nil, same_new hD⟩, fun i H _ ⟨_, _, _, e⟩ ys => ⟨e.seq, Same.tup e⟩, ?_, fun H ⟨ys, h1, h2, e⟩ => hd D ys H hD h1 (by rw [List.take_length] at h2; exact h2) e⟩
  rintro i x H hi ⟨ys, h1, h2, e⟩
  have hlen : ys.length ≤ i := by
    rw [← h2.length]
    exact Nat.le_trans (List.length_filter_le _ _) (by rw [List.length_take]; exact Nat.min_le_left _ _)
  have hil : i < xs.length := (List.getElem?_eq_some_iff.mp hi).1
  refine hs x H _ _ (List.mem_of_getElem? hi) e (fun y H' e2 r hp => ⟨ys, e2 _ _ h1, by omega, ys ++ [y], upd_same, ?_, ?_⟩) fun H' e2 hp => ⟨ys, e2 _ _ h1, ?_, e.trans e2⟩
  · have si : SameI H' (upd H' D (.lst (ys ++ [y]))) := SameI.lst (e2 _ _ h1)
    rw [take_filter hi, if_pos hp]
    exact Paired.snoc (Paired.mapP h2 fun a b r => mono _ _ _ _ r (SameI.trans (Same.i e2) si)) (mono _ _ _ _ r si)
  · intro b o hb
    rw [upd_ne (ne_of_none hb hD)]
    exact e2 _ _ (e _ _ hb)
  · rw [take_filter hi, if_neg (by rw [hp]; exact Bool.false_ne_true), List.append_nil]
    exact Paired.mapP h2 fun a b r => mono _ _ _ _ r (Same.i e2)
/-- .. whose test and elements are told by functions of the item -/
theorem lc_map {K : Frag} {p : Addr} {xs : List V} {g : TG} {tt : TT} {te : TE} {vs : List Nat} {σ : L2.St} {H1 : Hp} {Q : VK} (f : V → V) (pr : V → Bool) (hx : SqA K H1 p xs) (hz : xs.length < sizeLine)
    (hs : ∀ x H (A : V → Hp → Prop) (B : Hp → Prop), x ∈ xs → Same H1 H → (∀ H', Same H H' → pr x = true → A (f x) H') → (∀ H', Same H H' → pr x = false → B H') →
      g x (wipe σ vs) H fun σ2 H2 => wipe σ2 vs = wipe σ vs ∧ tt σ2 H2 fun b H3 => if b = true then te σ2 H3 A else B H3)
    (hd : ∀ D H', H1 D = none → H' D = some (.lst ((xs.filter pr).map f)) → Same H1 H' → Q (.ref D) H') :
    Walk K H1 p (Wr (LcGo g tt te vs σ Q)) := by
  refine lc_rel (fun x y _ => y = f x) pr hx hz (fun _ _ _ _ r _ => r) (fun x H A B hm e hA hB => hs x H A B hm e (fun H' e2 hp => hA _ _ e2 rfl hp) hB) fun D ys H' hn hD hp e => hd D H' hn ?_ e
  have key : ∀ {as bs : List V}, Paired (fun x y => y = f x) as bs → bs = as.map f := by
    intro as bs h
    induction h with
    | nil => rfl
    | cons r _ ih => rw [r, ih]; rfl
  rw [← key hp]; exact hD
end S
namespace S
open PySem PySem.Spec PyProof.Rows L2
/-! ### classes by their names -/
/-- the class x: below the classes ups of the text and the built-in ones tys -/
structure MF (K : Frag) (x : Str) (ups : List Str) (tys : List String) : Prop where
  cd : ∃ cd, PySem.W.clsIn K (He.ga K x) = some cd ∧ cd.name = x ∧ cd.mro = (x :: ups).map (fun y => Value.ref (He.ga K y)) ++ tys.map Value.type
  up : ∀ y ∈ ups, ∃ cd, PySem.W.clsIn K (He.ga K y) = some cd ∧ cd.name = y
  ty : PySem.W.typeIn K (.ref (He.ga K x)) = some (.type "type")
def nmB (K : Frag) (y : Str) : Bool := match PySem.W.clsIn K (He.ga K y) with
  | some cd => decide (cd.name = y)
  | none => false
theorem nmB_ok {K : Frag} {y : Str} (h : nmB K y = true) : ∃ cd, PySem.W.clsIn K (He.ga K y) = some cd ∧ cd.name = y := by
  unfold nmB at h
  split at h
  · rename_i cd e
    exact ⟨cd, e, of_decide_eq_true h⟩
  · cases h
def mfB (K : Frag) (x : Str) (ups : List Str) (tys : List String) : Bool := (match PySem.W.clsIn K (He.ga K x) with
  | some cd => decide (cd.name = x) && decide (cd.mro = (x :: ups).map (fun y => Value.ref (He.ga K y)) ++ tys.map Value.type)
  | none => false) && (ups.all (nmB K) && decide (PySem.W.typeIn K (.ref (He.ga K x)) = some (.type "type")))
theorem mfB_ok {K : Frag} {x : Str} {ups : List Str} {tys : List String} (h : mfB K x ups tys = true) : MF K x ups tys := by
  unfold mfB at h
  obtain ⟨h1, h2⟩ := He.ba h
  obtain ⟨h3, h4⟩ := He.ba h2
  refine ⟨?_, fun y hy => nmB_ok (List.all_eq_true.mp h3 y hy), of_decide_eq_true h4⟩
  split at h1
  · rename_i cd e
    obtain ⟨h5, h6⟩ := He.ba h1
    exact ⟨cd, e, of_decide_eq_true h5, of_decide_eq_true h6⟩
  · cases h1
theorem nm_inj {K : Frag} {x y : Str} (h1 : ∃ cd, PySem.W.clsIn K (He.ga K x) = some cd ∧ cd.name = x) (h2 : ∃ cd, PySem.W.clsIn K (He.ga K y) = some cd ∧ cd.name = y) (e : He.ga K x = He.ga K y) : x = y := by
  obtain ⟨c1, e1, n1⟩ := h1
  obtain ⟨c2, e2, n2⟩ := h2
  rw [e, e2] at e1
  cases e1
  exact n1.symm.trans n2
theorem MF.nm {K : Frag} {x : Str} {ups : List Str} {tys : List String} (m : MF K x ups tys) : ∃ cd, PySem.W.clsIn K (He.ga K x) = some cd ∧ cd.name = x := let ⟨cd, a, b, _⟩ := m.cd; ⟨cd, a, b⟩
theorem MF.all {K : Frag} {x : Str} {ups : List Str} {tys : List String} (m : MF K x ups tys) : ∀ y ∈ x :: ups, ∃ cd, PySem.W.clsIn K (He.ga K y) = some cd ∧ cd.name = y := fun y hy => by
  rcases List.mem_cons.mp hy with e | e
  · subst e; exact m.nm
  · exact m.up y e
section
variable {K : Frag} {x y : Str} {ups ups' : List Str} {tys tys' : List String}
theorem mf_sub (m : MF K x ups tys) (b : Value) : PySem.W.subIn K (.ref (He.ga K x)) b = some (decide (b ∈ (x :: ups).map (fun y => Value.ref (He.ga K y)) ++ tys.map Value.type)) := by
  obtain ⟨cd, e, _, hm⟩ := m.cd
  show PySem.W.mroIn K (He.ga K x) b = _
  unfold PySem.W.mroIn
  rw [e, Option.bind_some, hm, if_neg (by simp)]
  congr 1
  rw [Bool.eq_iff_iff]
  simp
theorem mf_cls (m : MF K x ups tys) (n : MF K y ups' tys') : PySem.W.kitCls K (.ref (He.ga K x)) (.ref (He.ga K y)) = some (decide (y ∈ x :: ups)) := by
  obtain ⟨cd, e, _⟩ := n.cd
  show (if ((PySem.W.clsIn K (He.ga K y)).isSome && PySem.W.typeIn K (.ref (He.ga K y)) == some (.type "type")) = true then PySem.W.subIn K (.ref (He.ga K x)) (.ref (He.ga K y)) else none) = _
  rw [if_pos (by rw [e, n.ty]; simp), mf_sub m]
  congr 1
  rw [decide_eq_decide]
  simp only [List.mem_append, List.mem_map]
  constructor
  · rintro (⟨z, hz, e⟩ | ⟨z, _, e⟩)
    · rw [← nm_inj (m.all z hz) n.nm (Value.ref.inj e)]
      exact hz
    · cases e
  · intro h
    exact .inl ⟨y, h, rfl⟩
theorem mf_kit (m : MF K x ups tys) (n : MF K y ups' tys') : PySem.W.kitOne K (.ref (He.ga K x)) (.ref (He.ga K y)) = some (decide (y ∈ x :: ups)) := by
  unfold PySem.W.kitOne
  split
  · rename_i h
    have e := nm_inj m.nm n.nm (Value.ref.inj (beq_iff_eq.mp h))
    subst e
    rw [decide_eq_true (List.mem_cons_self)]
  · exact mf_cls m n
theorem mf_exm (m : MF K x ups tys) (n : MF K y ups' tys') (hb : "BaseException" ∈ tys') : PySem.W.exmOne K (.ref (He.ga K x)) (.ref (He.ga K y)) = some (decide (y ∈ x :: ups)) := by
  unfold PySem.W.exmOne
  rw [if_pos, mf_cls m n]
  rw [mf_sub n, decide_eq_true]
  · rfl
  · exact List.mem_append.mpr (.inr (List.mem_map.mpr ⟨_, hb, rfl⟩))
/-- an instance of the class x against a built-in class -/
theorem mf_kty (m : MF K x ups tys) {n : String} (hk : PySem.W.kitMeta n = true) : PySem.W.kitOne K (.ref (He.ga K x)) (.type n) = some (decide (n ∈ tys)) := by
  unfold PySem.W.kitOne
  rw [if_neg (by simp)]
  show (if PySem.W.kitMeta n = true then PySem.W.subIn K (.ref (He.ga K x)) (.type n) else none) = _
  rw [if_pos hk, mf_sub m]
  congr 1
  rw [decide_eq_decide]
  simp
/-- a built-in type against the class y -/
theorem mf_tyk (n : MF K y ups' tys') {t : String} (ht : (PySem.fastBuiltinMro t).isSome = true) : PySem.W.kitOne K (.type t) (.ref (He.ga K y)) = some false := by
  unfold PySem.W.kitOne
  rw [if_neg (by simp)]
  obtain ⟨cd, e, _⟩ := n.cd
  show (if ((PySem.W.clsIn K (He.ga K y)).isSome && PySem.W.typeIn K (.ref (He.ga K y)) == some (.type "type")) = true then PySem.W.subIn K (.type t) (.ref (He.ga K y)) else none) = _
  rw [if_pos (by rw [e, n.ty]; simp)]
  show (PySem.fastBuiltinMro t).map (·.contains (.ref (He.ga K y))) = _
  obtain ⟨l, hl⟩ := Option.isSome_iff_exists.mp ht
  rw [hl]
  unfold PySem.fastBuiltinMro at hl
  obtain ⟨r, _, rfl⟩ := Option.map_eq_some_iff.mp hl
  rw [Option.map_some]
  congr 1
  rw [Bool.eq_false_iff]
  intro z
  rw [List.contains_iff_mem, List.mem_map] at z
  obtain ⟨_, _, e⟩ := z
  cases e
end
/-! ### classes with slots -/
structure CF (K : Frag) (x : Str) (fs : List Str) : Prop where
  mf : MF K x [] ["object"]
  sc : SlX.SCls K (He.ga K x)
  si : SlX.SIsi K (He.ga K x)
  sl : ∀ i f, fs[i]? = some f → SlX.Slot1 K (He.ga K x) f (He.ma K (He.ga K x) f) i
def sclsB (K : Frag) (C : Addr) : Bool := PySem.W.plainGet K C Str.empty && (PySem.W.isClsIn K C && (PySem.W.plainOver K C && He.eqO (PySem.W.findIn K (.ref C) "__setattr__") (some (some (.builtin "object.__setattr__")))))
theorem sclsB_ok {K : Frag} {C : Addr} (h : sclsB K C = true) : SlX.SCls K C := by
  obtain ⟨h1, h⟩ := He.ba h
  obtain ⟨h2, h⟩ := He.ba h
  obtain ⟨h3, h4⟩ := He.ba h
  exact ⟨h1, h2, h3, He.eqO_ok h4⟩
def sisiB (K : Frag) (C : Addr) : Bool := He.eqO (PySem.W.findIn K (.ref C) "__class__") (some (some (.builtin "object.__class__"))) && (He.eqO (PySem.W.specialIn K (.builtin "object.__class__") "__get__") (some (some (.builtin "getset_descriptor.__get__"))) &&
  (decide (PySem.W.takesIn K (.builtin "object.__class__") = some true) && decide (PySem.W.mroIn K C (.type "object") = some true)))
theorem sisiB_ok {K : Frag} {C : Addr} (h : sisiB K C = true) : SlX.SIsi K C := by
  obtain ⟨h1, h⟩ := He.ba h
  obtain ⟨h2, h⟩ := He.ba h
  obtain ⟨h3, h4⟩ := He.ba h
  exact ⟨He.eqO_ok h1, He.eqO_ok h2, of_decide_eq_true h3, of_decide_eq_true h4⟩
def slotB (K : Frag) (C : Addr) (f : Str) (p : Addr) (i : Nat) : Bool := He.eqO (PySem.W.findIn K (.ref C) f) (some (some (.ref p))) && (He.eqO (PySem.W.specialIn K (.ref p) "__get__") (some (some (.builtin "member_descriptor.__get__"))) &&
  (decide (PySem.W.takesIn K (.ref p) = some true) && (decide (PySem.W.typeIn K (.ref p) = some (.type "member_descriptor")) && (decide (PySem.W.slotIn K p C = some i) && decide (i < 1000)))))
theorem slotB_ok {K : Frag} {C : Addr} {f : Str} {p : Addr} {i : Nat} (h : slotB K C f p i = true) : SlX.Slot1 K C f p i := by
  obtain ⟨h1, h⟩ := He.ba h
  obtain ⟨h2, h⟩ := He.ba h
  obtain ⟨h3, h⟩ := He.ba h
  obtain ⟨h4, h⟩ := He.ba h
  obtain ⟨h5, h6⟩ := He.ba h
  exact ⟨He.eqO_ok h1, He.eqO_ok h2, of_decide_eq_true h3, of_decide_eq_true h4, of_decide_eq_true h5, of_decide_eq_true h6⟩
def slotsB (K : Frag) (C : Addr) : List Str → Nat → Bool
  | [], _ => true
  | f :: r, i => slotB K C f (He.ma K C f) i && slotsB K C r (i + 1)
theorem slotsB_ok {K : Frag} {C : Addr} : ∀ {fs : List Str} {n : Nat}, slotsB K C fs n = true → ∀ i f, fs[i]? = some f → SlX.Slot1 K C f (He.ma K C f) (n + i)
  | [], _, _, i, f, e => by simp at e
  | g :: r, n, h, i, f, e => by
    obtain ⟨h1, h2⟩ := He.ba (show (slotB K C g (He.ma K C g) n && slotsB K C r (n + 1)) = true from h)
    cases i with
    | zero =>
      have e' : g = f := by simpa using e
      subst e'
      exact slotB_ok h1
    | succ i =>
      have z := slotsB_ok h2 i f (by simpa using e)
      rw [show n + 1 + i = n + (i + 1) by omega] at z
      exact z
def cfB (x : Str) (fs : List Str) (K : Frag) : Bool := mfB K x [] ["object"] && (sclsB K (He.ga K x) && (sisiB K (He.ga K x) && slotsB K (He.ga K x) fs 0))
theorem cfB_ok {K : Frag} {x : Str} {fs : List Str} (h : cfB x fs K = true) : CF K x fs := by
  obtain ⟨h1, h⟩ := He.ba h
  obtain ⟨h2, h⟩ := He.ba h
  obtain ⟨h3, h4⟩ := He.ba h
  exact ⟨mfB_ok h1, sclsB_ok h2, sisiB_ok h3, fun i f e => by have z := slotsB_ok h4 i f e; rw [Nat.zero_add] at z; exact z⟩
/-! ### the exceptions -/
def veTys : List String := ["ValueError", "Exception", "BaseException", "object"]
structure ExF (K : Frag) (x : Str) (ups : List Str) : Prop where
  mf : MF K x ups veTys
  ec : L2.ExcC K (He.ga K x)
def excB (K : Frag) (D : Addr) : Bool := He.eqO (PySem.W.findIn K (.ref D) "__getattribute__") (some (some (.builtin "BaseException.__getattribute__"))) && (He.eqO (PySem.W.findIn K (.ref D) "__getattr__") (some none) && (decide (PySem.W.subIn K (.ref D) (.type "BaseException") = some true) &&
  (PySem.W.hasDictIn K D && (He.eqO (PySem.W.findIn K (.ref D) "__class__") (some (some (.builtin "object.__class__"))) && (He.eqO (PySem.W.specialIn K (.builtin "object.__class__") "__get__") (some (some (.builtin "getset_descriptor.__get__"))) &&
  (decide (PySem.W.takesIn K (.builtin "object.__class__") = some true) && decide (PySem.W.mroIn K D (.type "object") = some true)))))))
theorem excB_ok {K : Frag} {D : Addr} (h : excB K D = true) : L2.ExcC K D := by
  obtain ⟨h1, h⟩ := He.ba h
  obtain ⟨h2, h⟩ := He.ba h
  obtain ⟨h3, h⟩ := He.ba h
  obtain ⟨h4, h⟩ := He.ba h
  obtain ⟨h5, h⟩ := He.ba h
  obtain ⟨h6, h⟩ := He.ba h
  obtain ⟨h7, h8⟩ := He.ba h
  exact ⟨He.eqO_ok h1, He.eqO_ok h2, of_decide_eq_true h3, h4, He.eqO_ok h5, He.eqO_ok h6, of_decide_eq_true h7, of_decide_eq_true h8⟩
def exfB (x : Str) (ups : List Str) (K : Frag) : Bool := mfB K x ups veTys && excB K (He.ga K x)
theorem exfB_ok {K : Frag} {x : Str} {ups : List Str} (h : exfB x ups K = true) : ExF K x ups := by
  obtain ⟨h1, h2⟩ := He.ba h
  exact ⟨mfB_ok h1, excB_ok h2⟩
/-- what raising needs of a class without own __init__ -/
structure RsF (K : Frag) (x : Str) : Prop where
  q : PySem.W.excIn K (He.ga K x) He.veBase "ValueError.__new__" = true
  kp : PySem.W.keepIn K (.ref (He.ga K x)) = true
  sub : PySem.W.subIn K (.ref (He.ga K x)) (.type "BaseException") = some true
  ty : PySem.W.typeIn K (.ref (He.ga K x)) = some (.type "type")
def rsB (x : Str) (K : Frag) : Bool := (He.Fa.exc x).ok K
theorem rsB_ok {K : Frag} {x : Str} (h : rsB x K = true) : RsF K x := let ⟨a, b, c, d⟩ := He.exc_ok h; ⟨a, b, c, d⟩
/-! ### given facts -/
def dGiv (P : Prop) (t : TE) : TE := fun σ H Q => P → t σ H Q
theorem pe_giv {X : Cx} {e : Expr} {P : Prop} {t : TE} (p : P) (h : PE X e t) : PE X e (dGiv P t) := ⟨fun pins s σ H Q I q => h.run pins s σ H Q I (q p)⟩
def dGivS (P : Prop) (t : TS) : TS := fun D σ H => P → t D σ H
theorem ps_giv {X : Cx} {e : Stmt} {P : Prop} {t : TS} (p : P) (h : PS X e t) : PS X e (dGivS P t) := ⟨fun pins s σ H Q I q => h.run pins s σ H Q I (q p)⟩
/-! ### attributes -/
structure Atr (K : Frag) (H : Hp) (a : Addr) (f : Str) (k : V → Prop) : Prop where
  ex : (∃ C dx p vs i v, SlX.Slt H a C dx vs ∧ SlX.SCls K C ∧ SlX.Slot1 K C f p i ∧ vs[i]? = some (some v) ∧ k v) ∨ (∃ C dx fs v, H a = some (.ins C dx fs) ∧ Cls K C ∧ NoAttr K C f ∧ fs.lookup f = some v ∧ k v)
theorem Atr.sl {K : Frag} {H : Hp} {a dx : Addr} {f x : Str} {k : V → Prop} {fs : List Str} {vs : List (Option V)} {i : Nat} {v : V} (c : CF K x fs) (h : SlX.Slt H a (He.ga K x) dx vs) (e : fs[i]? = some f) (l : vs[i]? = some (some v)) (q : k v) : Atr K H a f k := ⟨.inl ⟨_, dx, _, vs, i, v, h, c.sc, c.sl i f e, l, q⟩⟩
def dAt (K : Frag) (f : Str) (ta : TE) : TE := fun σ H Q => ta σ H fun x H1 => match x with
  | .ref a => Atr K H1 a f fun v => Q v H1
  | _ => False
theorem pe_at {X : Cx} {e : Expr} {f : Str} {pos : Pos} {ta : TE} (he : PE X e ta) (hb : attributeBase e f X.env (eval e X.env) = eval e X.env := by rfl) : PE X (.Attribute e f pos) (dAt X.K f ta) := by
  refine ⟨fun pins s σ H Q I h => ?_⟩
  refine attr_of hb (thn (he.run pins s σ H _ I h) fun u s1 ⟨x, H1, I1, rx, q⟩ => ?_)
  cases x <;> try exact q.elim
  cases rx
  rcases q.ex with ⟨C, dx, p, vs, i, v, hs, c, t, l, q⟩ | ⟨C, dx, fs, v, ea, c, n, l, q⟩
  · exact SlX.getslot_ok I1 hs c t l fun u' s2 I2 ru => ⟨v, H1, I2, ru, q⟩
  · exact getattr_ok I1 ea c n l fun u' s2 I2 ru => ⟨v, H1, I2, ru, q⟩
structure Sto (K : Frag) (H : Hp) (a : Addr) (f : Str) (y : V) (k : Hp → Prop) : Prop where
  ex : (∃ C dx p vs i, SlX.Slt H a C dx vs ∧ SlX.SCls K C ∧ SlX.Slot1 K C f p i ∧ k (SlX.slH H a C dx (SlX.putS i y vs))) ∨ (∃ C dx fs, H a = some (.ins C dx fs) ∧ Cls K C ∧ NoAttr K C f ∧ fs.length < 1000 ∧ k (upd H a (.ins C dx (putF f y fs))))
theorem Sto.sl {K : Frag} {H : Hp} {a dx : Addr} {f x : Str} {k : Hp → Prop} {fs : List Str} {vs : List (Option V)} {i : Nat} {y : V} (c : CF K x fs) (h : SlX.Slt H a (He.ga K x) dx vs) (e : fs[i]? = some f) (q : k (SlX.slH H a (He.ga K x) dx (SlX.putS i y vs))) : Sto K H a f y k := ⟨.inl ⟨_, dx, _, vs, i, h, c.sc, c.sl i f e, q⟩⟩
def dSto (K : Frag) (f : Str) (tv ta : TE) : TS := fun D σ H => tv σ H fun y H1 => ta σ H1 fun x H2 => match x with
  | .ref a => Sto K H2 a f y fun H3 => D.nx σ H3
  | _ => False
theorem ps_sto {X : Cx} {o value : Expr} {f : Str} {pos pos' : Pos} {ta tv : TE} (hv : PE X value tv) (ha : PE X o ta) (hs : swapsWith value (some (.Attribute o f pos')) pos.line X.env = pure false := by rfl) : PS X (.Assign [.Attribute o f pos'] value pos) (dSto X.K f tv ta) := by
  refine ⟨fun pins s σ H D I h => ?_⟩
  refine plainObj_wpAny_Assign_Attribute (thn (hv.run pins s σ H _ I h) fun u s1 ⟨y, H1, I1, ry, q⟩ => thn (ha.run pins s1 σ H1 _ I1 q) fun ov s2 ⟨x, H2, I2, rx, q2⟩ => ?_) hs
  cases x <;> try exact q2.elim
  cases rx
  rcases q2.ex with ⟨C, dx, p, vs, i, hsl, c, t, q2⟩ | ⟨C, dx, fs, ea, c, n, l, q2⟩
  · exact SlX.setslot_ok I2 hsl c t ry fun s3 I3 => ⟨σ, _, I3, q2⟩
  · exact setattr_ok I2 ea c n l ry fun s3 I3 => ⟨σ, _, I3, q2⟩
/-! ### new instances -/
structure NewI (K : Frag) (H : Hp) (c : Str) (k : Addr → Hp → Prop) : Prop where
  go : ∀ x dx, H x = none → H dx = none → dx ≠ x → k x (upd (upd H dx (.own x)) x (.ins (He.ga K c) dx []))
def dMake (K : Frag) (c : Str) (sp : Sp) (E : L2.St → XK) (t : TA) : TE := fun σ H Q => t σ H fun vs H1 => NewI K H1 c fun x H2 => sp (.ref x :: vs) H2 (fun v H3 => v = .non ∧ Q (.ref x) H3) (E σ)
section
variable {X : Cx} {k : Nat} {g : Addr} {sp : Sp} {E : L2.St → XK} {x c m : Str} {p pos apos : Pos} {e o : Expr} {es : List Expr} {t : TA} {ta : TE}
theorem run_mk {pins : List (Addr × Obj)} {σ : L2.St} {H : Hp} {s : Shared} {Q : VK} {us : List Value} {vs : List V} (M : Mk X.K (He.ga X.K c) g) (F : FnR X.prog X.w X.K X.mg X.base (L2.CX X.prog X.w) k g sp) (hr : Room (k + 1) X.A) (hx : PassesAt (L2.CX X.prog X.w) X σ (E σ))
    (I : Inv X pins σ H s) (r : Vals vs us) (h : NewI X.K H c fun x H2 => sp (.ref x :: vs) H2 (fun v H3 => v = .non ∧ Q (.ref x) H3) (E σ)) : wpAny (model X.prog X.w) X.A (call (.ref (He.ga X.K c)) us) (EP X pins σ Q) X.xe s := by
  have hq := h.go (s.heap.objs.size + 1) s.heap.objs.size (I.hok.fresh (Nat.le_succ _)) (I.hok.fresh (Nat.le_refl _)) (Nat.ne_of_lt (Nat.lt_succ_self _))
  have I2 := Inv.made (C := He.ga X.K c) I
  have r2 : Vals (V.ref (s.heap.objs.size + 1) :: vs) (Value.ref (s.heap.objs.size + 1) :: us) := .cons rfl r
  refine wpAny_call (make_map (f := g) I.kIn M.makes M.init (beq_iff_eq.mp M.fn) (codeAny_mono (F _ X.stack _ _ (Value.ref (s.heap.objs.size + 1) :: us) _ _ (E σ) (hr.make (He.ga X.K c) us []) (I2.env0.make (He.ga X.K c) us []) r2 hq) fun r s' hq' => ?_))
  cases r with
  | error e => exact hx pins _ _ e s' I2 hq'
  | ok fl =>
    cases fl with
    | ret u =>
      obtain ⟨v, H', I3, rv, ev, q3⟩ := I2.after hq'
      subst ev
      exact ⟨rv, ⟨V.ref (s.heap.objs.size + 1), H', I3, rfl, q3⟩⟩
    | next => exact False.elim hq'
    | brk => exact False.elim hq'
    | cont => exact False.elim hq'
theorem pe_mk (M : Mk X.K (He.ga X.K c) g) (F : FnR X.prog X.w X.K X.mg X.base (L2.CX X.prog X.w) k g sp) (hr : Room (k + 1) X.A) (hm : X.mg c = some (.ref (He.ga X.K c))) (hx : ∀ σ, PassesAt (L2.CX X.prog X.w) X σ (E σ))
    (ha : PA X (e :: es) t) (hg : Gl X c := by rfl) (hdb : (c == ("__debug__" : Str)) = false := by decide) (he : starEach (e :: es) X.env = (false, eval e X.env) :: starEach es X.env := by rfl) (hpl : (backTo pos (starEach es X.env)).any (·.1) = false := by rfl) :
    PE X (.Call (.Name c p) (e :: es) [] pos) (dMake X.K c sp E t) := by
  refine ⟨fun pins s σ H Q I h => ?_⟩
  refine wpAny_Call_Name_kw (ld_glob I hg hm ?_ hdb)
  refine PySem.W.callWith_K (h₀ := X.base) I.ok.mod.kin M.kp (thn (ha.run pos pins s σ H _ I h) fun us s1 ⟨vs, H1, I1, r, q⟩ => ⟨I1.kIn, ?_⟩) he hpl
  exact run_mk M F hr (hx σ) I1 r q
/-! ### methods of instances with slots -/
structure IsO (K : Frag) (H : Hp) (c : Str) (a : Addr) (q : Prop) : Prop where
  ex : ∃ dx vs, SlX.Slt H a (He.ga K c) dx vs
  q : q
theorem IsO.of {K : Frag} {H : Hp} {c : Str} {a dx : Addr} {q : Prop} {vs : List (Option V)} (h : SlX.Slt H a (He.ga K c) dx vs) (h2 : q) : IsO K H c a q := ⟨⟨dx, vs, h⟩, h2⟩
def dMeth (K : Frag) (c : Str) (sp : Sp) (E : L2.St → XK) (ta : TE) (t : TA) : TE := fun σ H Q => ta σ H fun x H1 => match x with
  | .ref a => IsO K H1 c a (t σ H1 fun ws H2 => sp (.ref a :: ws) H2 Q (E σ))
  | _ => False
theorem pe_meth {pl : Sem Bool} (hc : SlX.SCls X.K (He.ga X.K c)) (hm : Meth X.K (He.ga X.K c) m g) (F : FnR X.prog X.w X.K X.mg X.base (L2.CX X.prog X.w) k g sp) (hr : Room k X.A) (hx : ∀ σ, PassesAt (L2.CX X.prog X.w) X σ (E σ)) (he : PE X o ta) (ha : PA X (e :: es) t)
    (hst : starEach (e :: es) X.env = (false, eval e X.env) :: starEach es X.env := by rfl) (hpl : (backTo pos (starEach es X.env)).any (·.1) = false := by rfl)
    (ht : eval (.Call (.Attribute o m apos) (e :: es) [] pos) X.env = (do
      let ov ← eval o X.env
      standAt apos.atName
      let (f, first) ← holding [ov] (getMethod ov m pl)
      callWith pos f first (backTo pos (starEach (e :: es) X.env)) (backToKw pos (keywordEach [] X.env))) := by rfl) :
    PE X (.Call (.Attribute o m apos) (e :: es) [] pos) (dMeth X.K c sp E ta t) := by
  refine ⟨fun pins s σ H Q I h => ?_⟩
  refine PySem.W.methodCall_KW (pl := pl) (thn (he.run pins s σ H _ I h) fun u s1 ⟨x, H1, I1, rx, q⟩ => ?_) ht
  cases x <;> try exact q.elim
  cases rx
  obtain ⟨⟨dx, vs, hsl⟩, q⟩ := q
  refine SlX.getmethsl_ok I1 hsl hc hm ?_
  refine PySem.W.callWith_K (first := [.ref _]) (h₀ := X.base) I.ok.mod.kin hm.kp (thn (ha.run pos pins s1 σ H1 _ I1 q) fun us s2 ⟨ws, H2, I2, r, q2⟩ => ⟨I2.kIn, ?_⟩) hst hpl
  exact run_R (us := .ref _ :: us) (vs := .ref _ :: ws) F hr (hx σ) I2 (.cons rfl r) q2
theorem pe_meth0 {pl : Sem Bool} (hc : SlX.SCls X.K (He.ga X.K c)) (hm : Meth X.K (He.ga X.K c) m g) (F : FnR X.prog X.w X.K X.mg X.base (L2.CX X.prog X.w) k g sp) (hr : Room k X.A) (hx : ∀ σ, PassesAt (L2.CX X.prog X.w) X σ (E σ)) (he : PE X o ta)
    (ht : eval (.Call (.Attribute o m apos) [] [] pos) X.env = (do
      let ov ← eval o X.env
      standAt apos.atName
      let (f, first) ← holding [ov] (getMethod ov m pl)
      callWith pos f first (backTo pos (starEach [] X.env)) (backToKw pos (keywordEach [] X.env))) := by rfl) :
    PE X (.Call (.Attribute o m apos) [] [] pos) (dMeth X.K c sp E ta tNil) := by
  refine ⟨fun pins s σ H Q I h => ?_⟩
  refine PySem.W.methodCall_KW (pl := pl) (thn (he.run pins s σ H _ I h) fun u s1 ⟨x, H1, I1, rx, q⟩ => ?_) ht
  cases x <;> try exact q.elim
  cases rx
  obtain ⟨⟨dx, vs, hsl⟩, q⟩ := q
  refine SlX.getmethsl_ok I1 hsl hc hm ?_
  exact PySem.W.callWith_K0 (first := [.ref _]) I1.kIn hm.kp (run_R (us := [.ref _]) (vs := [.ref _]) F hr (hx σ) I1 (.cons rfl .nil) q)
/-- x in o, o an instance whose class has its own __contains__ -/
def oInO (K : Frag) (c : Str) (sp : Sp) (E : XK) : R2 := fun x y H Q => match y with
  | .ref a => IsO K H c a (sp [.ref a, x] H (isB fun b H' => Q (.bl b) H') E)
  | _ => False
theorem op_inO {E : XK} (hm : Meth X.K (He.ga X.K c) "__contains__" g) (F : FnR X.prog X.w X.K X.mg X.base (L2.CX X.prog X.w) k g sp) (hr : Room k X.A) (hx : ∀ σ, PassesAt (L2.CX X.prog X.w) X σ E) : OpR X (compareOp .In) (oInO X.K c sp E) := by
  intro pins s σ H x y v u Q I rx ry q
  cases y <;> try exact q.elim
  cases ry
  obtain ⟨⟨dx, vs, hsl⟩, q⟩ := q
  obtain ⟨sl, od, _, J, _⟩ := SlX.slt_inst I hsl
  obtain ⟨m, hF⟩ := I.fr
  refine PySem.W.in_K hF I.ok.mod.kin J hm.at_ hm.fn ?_
  refine wpAny_mono (run_R (us := [.ref _, v]) (vs := [.ref _, x]) (E := fun _ => E) F hr (hx σ) I (.cons rfl (.cons rx .nil)) q) (fun w s' z => ?_) fun _ _ x => x
  obtain ⟨z', H', I', rz, qz⟩ := z
  obtain ⟨b, e, qz⟩ := isB_ex qz
  subst e
  cases rz
  exact wpAny_truthy_bool ⟨.bl b, H', I', rfl, qz⟩
/-- o.f, a property -/
structure PropF (K : Frag) (c f : Str) (g : Addr) : Prop where
  at_ : PySem.W.findIn K (.ref (He.ga K c)) f = some (some (.ref (He.ma K (He.ga K c) f)))
  get : PySem.W.specialIn K (.ref (He.ma K (He.ga K c) f)) "__get__" = some (some (.builtin "property.__get__"))
  tk : PySem.W.takesIn K (.ref (He.ma K (He.ga K c) f)) = some true
  rc : ∃ rest, PySem.W.recIn K (He.ma K (He.ga K c) f) "property" = some (.ref g :: rest)
def dProp (K : Frag) (c : Str) (sp : Sp) (ta : TE) : TE := fun σ H Q => ta σ H fun x H1 => match x with
  | .ref a => IsO K H1 c a (sp [.ref a] H1 Q E0)
  | _ => False
theorem pe_prop {f : Str} {n : Nat} (hc : SlX.SCls X.K (He.ga X.K c)) (pf : PropF X.K c f g) (F : FnR X.prog X.w X.K X.mg X.base (L2.CX X.prog X.w) n g sp) (hr : Room (n + 1) X.A) (he : PE X e ta)
    (hb : attributeBase e f X.env (eval e X.env) = eval e X.env := by rfl) : PE X (.Attribute e f pos) (dProp X.K c sp ta) := by
  refine ⟨fun pins s σ H Q I h => ?_⟩
  refine attr_of hb (thn (he.run pins s σ H _ I h) fun w s1 ⟨x, H1, I1, rx, q⟩ => ?_)
  cases x <;> try exact q.elim
  cases rx
  obtain ⟨⟨dx, vs, hsl⟩, q⟩ := q
  exact SlX.getprop_sl (CX := L2.CX X.prog X.w) (E := E0) I1 hsl hc pf.at_ pf.get pf.tk pf.rc F hr (fun _ _ _ _ h => by obtain ⟨_, _, _, _, _, _, _, _, _, _, _, _, z⟩ := h; exact z.elim) q
end
/-! ### raise, try -/
def WD (E : XK) : WX := fun c d _ H => E c d H
def WN : WX := fun _ _ _ _ => False
theorem takes_never {X : Cx} : Takes X WN := fun u s' h => by
  obtain ⟨_, _, _, _, _, _, _, _, _, _, _, _, _, _, _, _, z⟩ := h
  exact z.elim
theorem takesD {P : Program} {w : World} {K : Frag} {mg : Str → Option Value} {base : Heap} {N : List Str} {qual : Str} {scope : Scope} {f : Addr} {cd : Value} {A : Around} {outer : List Env} {s : Shared} {H : Hp} {E : XK} :
    Takes (cxD P w K mg base N qual scope f cd A outer s H E) (WD E) := takes_of rfl rfl rfl rfl
theorem takesL {X : Cx} : Takes X (WD E0) := fun u s' h => by
  obtain ⟨_, _, _, _, _, _, _, _, _, _, _, _, _, _, _, _, z⟩ := h
  exact z.elim
def dRaise (K : Frag) (x : Str) (W : WX) : TS := fun _ σ H => W (.ref (He.ga K x)) none σ H
theorem ps_rs {X : Cx} {x m : Str} {j : Nat} {p p2 pos pos' : Pos} {W : WX} (tk : Takes X W) (r : RsF X.K x) (gC : X.mg x = some (.ref (He.ga X.K x))) (hc : X.calm = true := by rfl) (hg : Gl X x := by rfl) (hdb : (x == ("__debug__" : Str)) = false := by decide) :
    PS X (.Raise (some (.Call (.Name x p) [.Constant (.str m) j p2] [] pos)) none pos') (dRaise X.K x W) := ps_raise hc tk (pmk_own PySem.F.excBase_ValueError r.q gC r.kp (raises_own r.sub r.ty) hg hdb)
theorem hdl_yes {K : Frag} {cls c : Value} {i : Nat} {ts : Addr → Value → Option Addr → TS} {Wout : WX} {D : Ends} {d : Option Addr} {σ : L2.St} {H : Hp} (h : PySem.W.exmOne K cls c = some true)
    (q : ∀ a, H a = none → ts a cls d { nx := fun σ' H' => D.nx (σ'.set i none) H', rt := D.rt, bk := fun σ' H' => D.bk (σ'.set i none) H', ct := fun σ' H' => D.ct (σ'.set i none) H' } (σ.set i (some (.ref a))) H) : wAs K c i ts Wout D cls d σ H :=
  ⟨true, h, fun _ => q, fun z => nomatch z⟩
theorem hdl_no {K : Frag} {cls c : Value} {i : Nat} {ts : Addr → Value → Option Addr → TS} {Wout : WX} {D : Ends} {d : Option Addr} {σ : L2.St} {H : Hp} (h : PySem.W.exmOne K cls c = some false) (q : Wout cls d σ H) : wAs K c i ts Wout D cls d σ H :=
  ⟨false, h, (fun z => nomatch z), fun _ => q⟩
def dTry (K : Frag) (c : Str) (i : Nat) (tb : WX → TS) (ts : Addr → Value → Option Addr → TS) (Wout : WX) : TS := fun D σ H => tb (wAs K (.ref (He.ga K c)) i ts Wout D) D σ H
theorem ps_try {X : Cx} {c n : Str} {i : Nat} {body suite : List Stmt} {b₀ : Stmt} {np pos pos' : Pos} {tb : WX → TS} {ts : Addr → Value → Option Addr → TS} {Wout : WX} (hN : X.N.Nodup) (gc : X.mg c = some (.ref (He.ga X.K c))) (tk : Takes X Wout)
    (hb : ∀ (W : WX) (pn : List (Addr × Obj)) (xe : Value → Shared → Prop), Takes (X.tr pn xe) W → PassesOwn (model X.prog X.w) X.A X.env xe → PSs (X.tr pn xe) body (tb W))
    (hsu : ∀ (a : Addr) (oe : Obj) (cls : Value) (d : Option Addr) (pn : List (Addr × Obj)), Zc cls d oe → (∃ vs, oe.data = .fields vs) → PSs (X.suite a ((a, oe) :: pn)) (b₀ :: suite) (ts a cls d))
    (hs : X.stack = X.env :: X.outer := by rfl) (hf : X.env.frame = some X.env.locals := by rfl) (hi : X.N[i]? = some n := by rfl) (hln : X.env.kindOf n = some .local := by rfl) (hg : Gl X c := by rfl) (hdb : (c == ("__debug__" : Str)) = false := by decide) :
    PS X (.Try body [.ExceptHandler (some (.Name c np)) (some n) (b₀ :: suite) pos'] [] [] pos) (dTry X.K c i tb ts Wout) := ps_try_as hs hf hN hi hln ⟨hg, hdb, .inl gc⟩ tk hb hsu
/-- isinstance(e, c), e the exception of the suite -/
structure IsE (K : Frag) (H : Hp) (a : Addr) (cls : Value) (d : Option Addr) (p : Addr) (u : Value) (k : Bool → Prop) : Prop where
  ex : ∃ D b, p = a ∧ cls = .ref D ∧ L2.ExcC K D ∧ (∀ dx, d = some dx → ∃ o, H dx = some o) ∧ PySem.W.kitOne K (.ref D) u = some b ∧ k b
theorem IsE.of {K : Frag} {H : Hp} {a D : Addr} {u : Value} {k : Bool → Prop} {b : Bool} (h : L2.ExcC K D) (e : PySem.W.kitOne K (.ref D) u = some b) (q : k b) : IsE K H a (.ref D) none a u k := ⟨D, b, rfl, rfl, h, (fun _ z => nomatch z), e, q⟩
theorem IsE.ofd {K : Frag} {H : Hp} {a D dx : Addr} {o : HO} {u : Value} {k : Bool → Prop} {b : Bool} (h : L2.ExcC K D) (hd : H dx = some o) (e : PySem.W.kitOne K (.ref D) u = some b) (q : k b) : IsE K H a (.ref D) (some dx) a u k := ⟨D, b, rfl, rfl, h, (fun _ z => by cases z; exact ⟨o, hd⟩), e, q⟩
def cIsE (K : Frag) (a : Addr) (cls : Value) (d : Option Addr) : List V → Hp → VK → Prop := fun xs H Q => match xs with
  | [.ref p, .ty n] => IsE K H a cls d p (.type n) fun b => Q (.bl b) H
  | [.ref p, .ref C] => IsE K H a cls d p (.ref C) fun b => Q (.bl b) H
  | _ => False
theorem ise_call {X : Cx} {a : Addr} {cls : Value} {d : Option Addr} {oe : Obj} {pn pins : List (Addr × Obj)} {σ : L2.St} {H : Hp} {s : Shared} {p : Addr} {c : V} {cv : Value} {us : List Value} {Q : VK} (hz : Zc cls d oe) (hf : ∃ vs, oe.data = .fields vs) (I : Inv (X.suite a ((a, oe) :: pn)) pins σ H s) (r : Vals [.ref p, c] us)
    (hc : ∀ u, RelV c u → u = cv) (h : IsE X.K H a cls d p cv fun b => Q (.bl b) H) : wpAny (model X.prog X.w) (X.suite a ((a, oe) :: pn)).A (call (.builtin "isinstance") us) (EP (X.suite a ((a, oe) :: pn)) pins σ Q) (X.suite a ((a, oe) :: pn)).xe s := by
  obtain ⟨D, b, e1, e2, hD, hd, hk, q⟩ := h
  subst e1 e2
  cases r with
  | cons rx rr =>
    cases rr with
    | cons rt rr =>
      cases rr
      cases rx
      have ec := hc _ rt
      subst ec
      obtain ⟨hget, _⟩ := I.pin (p, oe) (List.mem_append.mpr (.inl List.mem_cons_self))
      obtain ⟨vs, hv⟩ := hf
      have hcl : (PySem.W.clsIn X.K D).isSome = true := by
        obtain ⟨cd, hc, _⟩ := PySem.W.any_some hD.hd
        rw [hc]; rfl
      have J : ∃ od, PySem.W.InstAt s.heap p oe D od := by
        obtain ⟨oc, od, oda, osl⟩ := oe
        obtain ⟨h1, h2⟩ := hz
        dsimp only at h1 h2 hv
        subst h1 h2 hv
        cases od with
        | none => exact ⟨none, hget, rfl, rfl, trivial⟩
        | some dx =>
          obtain ⟨o, ho⟩ := hd dx rfl
          obtain ⟨oo, hoo⟩ := objOk_get (I.hok dx o ho)
          exact ⟨some oo, hget, rfl, rfl, hoo⟩
      obtain ⟨od, J⟩ := J
      exact PySem.W.kia_one (PySem.W.kitx_exc hcl hD.hg hD.hk hD.hs hD.ha hD.hn hD.ht hD.hm) I.kIn J hk (fun z => nomatch z) fun tk => ⟨.bl b, H, I.kept (t' := tk) fun _ _ z => z, rfl, q⟩
theorem c_ise {X : Cx} {a : Addr} {cls : Value} {d : Option Addr} {oe : Obj} {pn : List (Addr × Obj)} (hz : Zc cls d oe) (hf : ∃ vs, oe.data = .fields vs) : CallR (X.suite a ((a, oe) :: pn)) (.builtin "isinstance") (cIsE X.K a cls d) := by
  intro pins s σ H xs us Q I r h
  match xs, h with
  | [.ref p, .ty n], h => exact ise_call hz hf I r (fun u z => z) h
  | [.ref p, .ref C], h => exact ise_call hz hf I r (fun u z => z) h
/-! ### defaults -/
def EmpT (K : Frag) (v : V) : Prop := ∃ a, v = .ref a ∧ ∀ H, SqT K H a []
def empA (K : Frag) (a : Addr) : Bool := match K.lookup a with
  | some ⟨.type c, _, .seq its _, _⟩ => decide (c = "tuple") && decide (its = #[])
  | _ => false
def empB (K : Frag) (v : V) : Bool := match v with
  | .ref a => empA K a
  | _ => false
theorem empB_ok {K : Frag} {v : V} (h : empB K v = true) : EmpT K v := by
  cases v with
  | ref a =>
    refine ⟨a, rfl, fun H => ?_⟩
    have h : empA K a = true := h
    unfold empA at h
    split at h
    · rename_i c od its n osl q
      obtain ⟨h1, h2⟩ := He.ba h
      have e : its = #[] := of_decide_eq_true h2
      subst e
      exact .inr ⟨_, #[], n, q, congrArg Value.type (of_decide_eq_true h1), rfl, by simp, .nil⟩
    · cases h
  | _ => cases h
def spD (sp : Sp) (dvs : List V) : Sp := fun vs H Q E => sp (vs ++ dvs) H Q E
theorem mk_fnD {P : Program} {w : World} {K : Frag} {mg : Str → Option Value} {base : Heap} {x qual : Str} {params : Arguments} {body : List Stmt} {scope : Scope} {f : Addr} {fd : FuncData} {N ps : List Str} {k : Nat} {sp : Sp} {dvs ex : List V} {kws : List (Str × V)} (F : FunD K x qual params body scope dvs kws f fd) (S : FnScope N ps scope)
    (len : ∀ vs H Q E, sp vs H Q E → vs.length = ps.length) (hb : ∃ ds, Vals ex ds ∧ Binds K fd ps ds) {t : XK → TS}
    (hbody : ∀ (cdv : Value) (A : Around) (outer : List Env) (s : Shared) (H : Hp) (E : XK), Room k (A.deeper (envOfC qual scope s.heap.objs.size f cdv)) →
      PSs (cxD P w K mg base N qual scope f cdv A outer s H E) body (t E))
    (pure : ∀ vs H Q E, sp vs H Q E → t E { nx := fun _ H' => Q .non H', rt := Q } (start N vs) H) : FR P w K mg base (k + 1) f (spD sp ex) := by
  obtain ⟨ds, hv, hb⟩ := hb
  exact (FunD.ok (P := P) (w := w) (mg := mg) (base := base) (CX := L2.CX P w) (sp := sp) F S len fun cdv A outer s H vs Q E hr h => ⟨t E, hbody cdv A outer s H E hr, pure vs H Q E h⟩).raw hb hv
theorem spD_nil {P : Program} {w : World} {K : Frag} {mg : Str → Option Value} {base : Heap} {f : Addr} {k : Nat} {sp : Sp} (F : FR P w K mg base k f (spD sp [])) : FR P w K mg base k f sp :=
  FnR.imp F fun vs H Q E h => by show sp (vs ++ []) H Q E; rw [List.append_nil]; exact h
/-! ### functions behind wrappers -/
def uA (K : Frag) (c m : Str) : Addr := match PySem.W.recIn K (He.ma K (He.ga K c) m) "property" with
  | some (.ref g :: _) => g
  | _ => (match PySem.W.recIn K (He.ma K (He.ga K c) m) "staticmethod" with
    | some (.ref g :: _) => g
    | _ => 0)
def propB (c f : Str) (K : Frag) : Bool := He.eqO (PySem.W.findIn K (.ref (He.ga K c)) f) (some (some (.ref (He.ma K (He.ga K c) f)))) && (He.eqO (PySem.W.specialIn K (.ref (He.ma K (He.ga K c) f)) "__get__") (some (some (.builtin "property.__get__"))) &&
  (decide (PySem.W.takesIn K (.ref (He.ma K (He.ga K c) f)) = some true) && (match PySem.W.recIn K (He.ma K (He.ga K c) f) "property" with
    | some (.ref g :: _) => decide (g = uA K c f)
    | _ => false)))
theorem propB_ok {K : Frag} {c f : Str} (h : propB c f K = true) : PropF K c f (uA K c f) := by
  obtain ⟨h1, h⟩ := He.ba h
  obtain ⟨h2, h⟩ := He.ba h
  obtain ⟨h3, h4⟩ := He.ba h
  refine ⟨He.eqO_ok h1, He.eqO_ok h2, of_decide_eq_true h3, ?_⟩
  split at h4
  · rename_i g r e
    rw [of_decide_eq_true h4] at e
    exact ⟨r, e⟩
  · cases h4
/-! ### defs by their addresses -/
structure DfX where
  ad : Frag → Addr
  name : Str
  qual : Str
  params : Arguments
  body : List Stmt
  scope : Scope
  dfl : List He.Dv := []
  kwd : List (Str × He.Dv) := []
  clo : List Str := []
def fnX (K : Frag) (a : Addr) : He.FnW := match K.lookup a with
  | some ⟨_, _, .func fd, _⟩ => some (fd.name, fd.qualname, fd.params, fd.body, fd.scope, fd.globals, fd.closure.map (fun c => (c.1, (0 : Addr))), fd.builtins)
  | _ => none
def DfX.val (d : DfX) : He.FnW := some (d.name, d.qual, d.params, .stmts d.body, d.scope, mainGlobals, d.clo.map (fun n => (n, (0 : Addr))), builtinsNs)
def DfX.dvs (K : Frag) (d : DfX) : List V := d.dfl.map (He.Dv.v K)
def DfX.kws (K : Frag) (d : DfX) : List (Str × V) := d.kwd.map fun q => (q.1, q.2.v K)
def DfX.ok (K : Frag) (d : DfX) : Bool := PySem.W.keepIn K (.ref (d.ad K)) && (match K.lookup (d.ad K) with
  | some ⟨_, _, .func fd, _⟩ => PySem.W.codeIn K fd.code d.qual && (He.dflB K fd.defaults (d.dvs K) && He.kwdB K fd.kwdefaults (d.kws K))
  | _ => false)
theorem DfX.funD {K : Frag} {d : DfX} (hclo : d.clo = []) (e : fnX K (d.ad K) = d.val) (c : d.ok K = true) : ∃ fd, FunD K d.name d.qual d.params d.body d.scope (d.dvs K) (d.kws K) (d.ad K) fd := by
  obtain ⟨kp, c2⟩ := He.ba c
  unfold fnX at e
  split at e
  · rename_i oc od fd osl q
    rw [q] at c2
    obtain ⟨k1, k2⟩ := He.ba c2
    obtain ⟨k3, k4⟩ := He.ba k2
    obtain ⟨n1, n2, n3, n4, n5, n6, n7, n8, n9, n10, n11, n12, n13, n14, n15⟩ := fd
    unfold DfX.val at e
    rw [hclo] at e
    simp only [Option.some.injEq, Prod.mk.injEq, List.map_nil, List.map_eq_nil_iff] at e
    obtain ⟨h1, h2, h3, h4, h5, h6, h7, h8⟩ := e
    subst h1 h2 h3 h4 h5 h6 h7 h8
    exact ⟨_, ⟨oc, od, n8, n9, n10, n11, n12, n13, n14, osl, rfl, q, k1, He.dflB_ok k3, He.kwdB_ok k4⟩, kp⟩
  · cases e
/-! ### the hook -/
abbrev AlX : Type := Bool × List He.FnW
def obsK (fa : List He.Fa) (fx : List (Frag → Bool)) (fn : List DfX) (K : Frag) : AlX := ((fa.all fun f => f.ok K) && ((fx.all fun f => f K) && fn.all fun d => d.ok K), fn.map fun d => fnX K (d.ad K))
def valX (fn : List DfX) : AlX := (true, fn.map DfX.val)
def SaysX (fa : List He.Fa) (fx : List (Frag → Bool)) (fn : List DfX) (K : Frag) : Prop := obsK fa fx fn K = valX fn
/-- what the names reach in n steps, the statics, the cells of closures -/
def asX (g : Addr → Option Obj) (n : Nat) : List Addr := let l := He.asD g n ++ [cStatics]
  l ++ l.flatMap fun a => match g a with
    | some ⟨_, _, .func fd, _⟩ => fd.closure.map (·.2)
    | _ => []
def obsXG (n : Nat) (fa : List He.Fa) (fx : List (Frag → Bool)) (fn : List DfX) (g : Addr → Option Obj) : AlX := obsK fa fx fn (He.frG g (asX g n))
def hookX (n : Nat) (fa : List He.Fa) (fx : List (Frag → Bool)) (fn : List DfX) : PySem.W.Hook where
  α := AlX
  obs := fun s => obsXG n fa fx fn s.heap.get?
  val := fun _ => valX fn
  says := fun _ h => ∃ K : Frag, K.In h ∧ SaysX fa fx fn K
  of := fun _ _ e => ⟨_, He.frG_in, e⟩
  keeps := fun _ _ _ ⟨K, hK, c⟩ k => ⟨K, PySem.W.Frag.In.keeps hK k, c⟩
theorem obsXG_eq {n : Nat} {fa : List He.Fa} {fx : List (Frag → Bool)} {fn : List DfX} {g : Addr → Option Obj} {s : Shared} (h : ∀ a, g a = s.heap.get? a) : obsXG n fa fx fn g = (hookX n fa fx fn).obs s := by
  have e : g = s.heap.get? := funext h
  rw [e] <;> rfl
section
variable {fa : List He.Fa} {fx : List (Frag → Bool)} {fn : List DfX} {K : Frag}
theorem SaysX.fst (c : SaysX fa fx fn K) : (fa.all fun f => f.ok K) = true ∧ (fx.all fun f => f K) = true ∧ (fn.all fun d => d.ok K) = true := by
  have z : ((fa.all fun f => f.ok K) && ((fx.all fun f => f K) && fn.all fun d => d.ok K)) = true := congrArg (fun z : AlX => z.1) c
  obtain ⟨a, b⟩ := He.ba z
  exact ⟨a, He.ba b⟩
theorem SaysX.fact (c : SaysX fa fx fn K) (i : Nat) {f : He.Fa} (h : fa[i]? = some f := by rfl) : f.ok K = true := List.all_eq_true.mp c.fst.1 f (List.mem_of_getElem? h)
theorem SaysX.more (c : SaysX fa fx fn K) (i : Nat) {f : Frag → Bool} (h : fx[i]? = some f := by rfl) : f K = true := List.all_eq_true.mp c.fst.2.1 f (List.mem_of_getElem? h)
theorem SaysX.fnv (c : SaysX fa fx fn K) (i : Nat) {d : DfX} (h : fn[i]? = some d := by rfl) : fnX K (d.ad K) = d.val := by
  have e : fn.map (fun d => fnX K (d.ad K)) = fn.map DfX.val := congrArg (fun z : AlX => z.2) c
  have e2 : (fn.map fun d => fnX K (d.ad K))[i]? = (fn.map DfX.val)[i]? := by rw [e]
  rw [List.getElem?_map, List.getElem?_map, h] at e2
  exact Option.some.inj e2
theorem SaysX.def_ (c : SaysX fa fx fn K) (i : Nat) {d : DfX} (h : fn[i]? = some d := by rfl) (hclo : d.clo = [] := by rfl) : ∃ fd, FunD K d.name d.qual d.params d.body d.scope (d.dvs K) (d.kws K) (d.ad K) fd := by
  have e : fn.map (fun d => fnX K (d.ad K)) = fn.map DfX.val := congrArg (fun z : AlX => z.2) c
  have e2 : (fn.map fun d => fnX K (d.ad K))[i]? = (fn.map DfX.val)[i]? := by rw [e]
  rw [List.getElem?_map, List.getElem?_map, h] at e2
  exact DfX.funD hclo (Option.some.inj e2) (List.all_eq_true.mp c.fst.2.2 d (List.mem_of_getElem? h))
end
end S
namespace S
open PySem PySem.Spec PyProof.Rows L2
/-! ### bool(x): by its truth -/
theorem isType_bool : isType (.type "bool") = (pure true : Sem Bool) := by first | rfl | kernel_rfl
theorem bool_tr {prog : Program} {w : World} {A : Around} {E : Value → Shared → Prop} {s : Shared} {x : Value} {Q : Value → Shared → Prop} (h : wpAny (model prog w) A.in1.in1 (truthy x) (fun b s' => Q (.bool b) s') E s) : wpAny (model prog w) A (call (.type "bool") [x]) Q E s := by
  refine callType_codes (T := "bool") (Bi := Builtin.«object.__init__») (Q₁ := fun r s₁ => ∃ b, r = Value.bool b ∧ Q r s₁) PySem.F.called_bool (PySem.F.typeCall_bool_1 _) PySem.F.entry_object_init ?_ ?_
  · refine codeAny_of_tree ?_
    show wpAny _ A.in1.in1 (do checkBuiltinCall "bool.__new__" ⟨[.type "bool", x], []⟩; again (.builtin "bool.__new__" ⟨[.type "bool", x], []⟩)) _ _ s
    refine wpAny_bind (wpAny_of_eq (PySem.F.newCall_bool_1 _) (wpAny_pure ⟨plainId_quiet (by decide +kernel) _, codeAny_builtin PySem.F.entry_bool_new ?_⟩))
    rw [Around.under_plainId (by decide +kernel) _]
    unfold Builtin.«bool.__new__»
    refine wpAny_bind (wpAny_of_eq (a := true) isType_bool ?_)
    refine PySem.W.KFB.if_not rfl ?_
    refine wpAny_bind (wpAny_of_eq (a := true) PySem.F.conv_sub_bool ?_)
    refine PySem.W.KFB.if_not rfl ?_
    refine wpAny_bind (wpAny_of_eq (a := [x]) (by first | rfl | kernel_rfl) ?_)
    refine wpAny_bind (wpAny_mono h (fun b s₁ hb => ?_) fun _ _ y => y)
    exact wpAny_pure ⟨b, rfl, hb⟩
  · rintro obj s₁ ⟨b, rfl, hq⟩
    exact ⟨PySem.typeIs_bool _ _, PySem.F.args_object_init_2 _ _, object_init_meets PySem.F.called_bool.init.lookup PySem.F.called_bool.made (by decide) prog w A.in1 _ s₁ ⟨PySem.typeIs_bool _ _, rfl, hq⟩⟩
def cBool (K : Frag) : List V → Hp → VK → Prop := fun xs H Q => match xs with
  | [.int i] => Q (.bl (decide (i ≠ 0))) H
  | [.bl b] => Q (.bl b) H
  | [.ref p] => Rd K H p fun ys => Q (.bl (decide (ys ≠ []))) H
  | _ => False
theorem c_bool {X : Cx} : CallR X (.type "bool") (cBool X.K) := by
  intro pins s σ H xs us Q I r h
  have hl := line63
  match xs, h with
  | [.int i], h =>
    obtain ⟨u, rfl, ⟨t, rfl⟩⟩ := r.one
    refine bool_tr (PySem.P.truthy_int ⟨.bl (i != 0), H, I, rfl, ?_⟩)
    have e : (i != 0) = decide (i ≠ 0) := by by_cases h : i = 0 <;> simp [h]
    rw [e]; exact h
  | [.bl b], h =>
    obtain ⟨u, rfl, rfl⟩ := r.one
    exact bool_tr (wpAny_truthy_bool ⟨.bl b, H, I, rfl, h⟩)
  | [.ref p], ⟨⟨ys, hx, h⟩⟩ =>
    obtain ⟨u, rfl, rfl⟩ := r.one
    have e : (!ys.isEmpty) = decide (ys ≠ []) := by cases ys <;> simp
    rcases hx with hx | hx
    · obtain ⟨its, rv, pl, hz⟩ := I.list hx
      have hlen := rv.length
      exact bool_tr (wpAny_truthy_list pl.isList (by simp only [List.size_toArray]; omega) ⟨.bl (!ys.isEmpty), H, I.tok _, by rw [isEmpty_of rv]; rfl, by rw [e]; exact h⟩)
    · obtain ⟨its, rv, pl, hz⟩ := I.tuple hx
      have hlen := rv.length
      exact bool_tr (truthy_tuple pl (by simp only [List.size_toArray]; omega) ⟨.bl (!ys.isEmpty), H, I.tok _, by rw [isEmpty_of rv]; rfl, by rw [e]; exact h⟩)
section
variable {X : Cx} {k : Nat} {g : Addr} {sp : Sp} {E : XK} {c m : Str} {ups : List Str} {tys : List String}
/-- the class's own def, called for an operator -/
theorem run_op {A : Around} {pins : List (Addr × Obj)} {σ : L2.St} {H : Hp} {s : Shared} {Q : VK} {us : List Value} {vs : List V} (F : FnR X.prog X.w X.K X.mg X.base (L2.CX X.prog X.w) k g sp) (hr : Room k A) (e0 : Env0 X.prog X.w X.K X.mg X.base A X.stack s H) (hx : ∀ σ, PassesAt (L2.CX X.prog X.w) X σ E)
    (I : Inv X pins σ H s) (r : Vals vs us) (h : sp vs H Q E) : wpAny (model X.prog X.w) A (call (.ref g) us) (EP X pins σ Q) X.xe s := by
  refine wpAny_call (codeAny_mono (F A X.stack s H us vs Q E hr e0 r h) fun r s' hq => ?_)
  cases r with
  | error e => exact hx σ pins H s e s' I hq
  | ok fl =>
    cases fl with
    | ret u => exact I.after hq
    | next => exact False.elim hq
    | brk => exact False.elim hq
    | cont => exact False.elim hq
/-- bool(x) of an instance with its own __bool__ -/
def cBoolO (K : Frag) (c : Str) (sp : Sp) (E : XK) : List V → Hp → VK → Prop := fun xs H Q => match xs with
  | [.ref p] => IsO K H c p (sp [.ref p] H (isB fun b H' => Q (.bl b) H') E)
  | _ => False
theorem c_boolO (hm : Meth X.K (He.ga X.K c) "__bool__" g) (F : FnR X.prog X.w X.K X.mg X.base (L2.CX X.prog X.w) k g sp) (hr : Room (k + 2) X.A) (hx : ∀ σ, PassesAt (L2.CX X.prog X.w) X σ E) : CallR X (.type "bool") (cBoolO X.K c sp E) := by
  intro pins s σ H xs us Q I r h
  match xs, h with
  | [.ref p], ⟨⟨dx, vs, hsl⟩, q⟩ =>
    obtain ⟨u, rfl, rfl⟩ := r.one
    obtain ⟨sl, od, _, J, _⟩ := SlX.slt_inst I hsl
    obtain ⟨m, hF⟩ := I.fr
    have hr2 : Room k X.A.in1.in1 := (show Room (k + 1) X.A.in1 from Room.in1 hr).in1
    refine bool_tr (PySem.W.truthy_K hF I.ok.mod.kin J hm.at_ hm.fn (wpAny_mono (run_op (us := [.ref p]) (vs := [.ref p]) F hr2 I.env0.in1.in1 hx I (.cons rfl .nil) q) (fun w s' z => ?_) fun _ _ x => x))
    obtain ⟨z', H', I', rz, qz⟩ := z
    obtain ⟨b, e, qz⟩ := isB_ex qz
    subst e
    cases rz
    exact ⟨.bl b, H', I', rfl, qz⟩
theorem mf_first (mf : MF X.K c ups tys) : PySem.W.selfFirst X.K (He.ga X.K c) = true := by
  obtain ⟨cd, e, _, hm⟩ := mf.cd
  unfold PySem.W.selfFirst
  rw [e, Option.any_some, hm]
  simp
/-- x op y, both instances of c, its own def; r: of other values -/
def oOwn (K : Frag) (c : Str) (sp : Sp) (E : XK) (r : R2) : R2 := fun x y H Q => match x, y with
  | .ref a, .ref b => IsO K H c a (IsO K H c b (sp [.ref a, .ref b] H Q E))
  | x, y => r x y H Q
theorem op_ownB {op : Operator} {r : R2} (mf : MF X.K c ups tys) (hm : Meth X.K (He.ga X.K c) (PySem.dunder op.info.2) g) (F : FnR X.prog X.w X.K X.mg X.base (L2.CX X.prog X.w) k g sp) (hr : Room k X.A) (hx : ∀ σ, PassesAt (L2.CX X.prog X.w) X σ E) (h0 : OpR X (binaryOp op) r) : OpR X (binaryOp op) (oOwn X.K c sp E r) := by
  intro pins s σ H x y v u Q I rx ry q
  have own : ∀ a b, x = .ref a → y = .ref b → IsO X.K H c a (IsO X.K H c b (sp [.ref a, .ref b] H Q E)) → wpAny (model X.prog X.w) X.A (binaryOp op v u) (EP X pins σ Q) X.xe s := by
    intro a b ex ey q
    subst ex ey
    cases rx
    cases ry
    obtain ⟨⟨dx, vs, hsl⟩, ⟨⟨dy, ws, hsl2⟩, q⟩⟩ := q
    obtain ⟨sl, od, _, J, _⟩ := SlX.slt_inst I hsl
    obtain ⟨sl', od', _, J', _⟩ := SlX.slt_inst I hsl2
    obtain ⟨m, hF⟩ := I.fr
    refine PySem.W.binop_K hF I.ok.mod.kin J J'.type (mf_first mf) hm.at_ hm.fn ?_
    refine wpAny_mono (run_op (us := [.ref a, .ref b]) (vs := [.ref a, .ref b]) F hr I.env0 hx I (.cons rfl (.cons rfl .nil)) q) (fun w s' z => ?_) fun _ _ x => x
    obtain ⟨z', H', I', rz, qz⟩ := z
    exact SlX.cmpback rz ⟨z', H', I', rz, qz⟩
  cases x <;> cases y <;> first | exact own _ _ rfl rfl q | exact h0 pins s σ H _ _ v u Q I rx ry q
/-- op x, an instance of c -/
def uOwn (K : Frag) (c : Str) (sp : Sp) (E : XK) : V → Hp → VK → Prop := fun x H Q => match x with
  | .ref a => IsO K H c a (sp [.ref a] H Q E)
  | _ => False
theorem u_inv (hm : Meth X.K (He.ga X.K c) "__invert__" g) (F : FnR X.prog X.w X.K X.mg X.base (L2.CX X.prog X.w) k g sp) (hr : Room k X.A) (hx : ∀ σ, PassesAt (L2.CX X.prog X.w) X σ E) : UnR X (unaryOp .Invert) (uOwn X.K c sp E) := by
  intro pins s σ H x v Q I rx q
  cases x <;> try exact q.elim
  cases rx
  obtain ⟨⟨dx, vs, hsl⟩, q⟩ := q
  obtain ⟨sl, od, _, J, _⟩ := SlX.slt_inst I hsl
  obtain ⟨m, hF⟩ := I.fr
  exact PySem.W.ksp_inv hF I.ok.mod.kin J hm.at_ hm.fn (run_op (us := [.ref _]) (vs := [.ref _]) F hr I.env0 hx I (.cons rfl .nil) q)
theorem u_negO (hm : Meth X.K (He.ga X.K c) "__neg__" g) (F : FnR X.prog X.w X.K X.mg X.base (L2.CX X.prog X.w) k g sp) (hr : Room k X.A) (hx : ∀ σ, PassesAt (L2.CX X.prog X.w) X σ E) : UnR X (unaryOp .USub) (uOwn X.K c sp E) := by
  intro pins s σ H x v Q I rx q
  cases x <;> try exact q.elim
  cases rx
  obtain ⟨⟨dx, vs, hsl⟩, q⟩ := q
  obtain ⟨sl, od, _, J, _⟩ := SlX.slt_inst I hsl
  obtain ⟨m, hF⟩ := I.fr
  exact PySem.W.ksp_neg hF I.ok.mod.kin J hm.at_ hm.fn (run_op (us := [.ref _]) (vs := [.ref _]) F hr I.env0 hx I (.cons rfl .nil) q)
/-- x == y: of instances of c by its own def; of data -/
structure EqOr (K : Frag) (c : Str) (H : Hp) (a b : Addr) (P : Prop) (k : Bool → Prop) : Prop where
  ex : (IsO K H c a (IsO K H c b P)) ∨ EqD K H (.ref a) (.ref b) k
theorem EqOr.own {K : Frag} {c : Str} {H : Hp} {a b dx dy : Addr} {P : Prop} {k : Bool → Prop} {vs ws : List (Option V)} (h : SlX.Slt H a (He.ga K c) dx vs) (h2 : SlX.Slt H b (He.ga K c) dy ws) (q : P) : EqOr K c H a b P k := ⟨.inl (.of h (.of h2 q))⟩
theorem EqOr.dat {K : Frag} {c : Str} {H : Hp} {a b : Addr} {P : Prop} {k : Bool → Prop} (h : EqD K H (.ref a) (.ref b) k) : EqOr K c H a b P k := ⟨.inr h⟩
def oEqO (K : Frag) (c : Str) (sp : Sp) (E : XK) : R2 := fun x y H Q => match x, y with
  | .ref a, .ref b => EqOr K c H a b (sp [.ref a, .ref b] H Q E) fun k => Q (.bl k) H
  | x, y => oEq K x y H Q
theorem op_eqO (hm : Meth X.K (He.ga X.K c) "__eq__" g) (F : FnR X.prog X.w X.K X.mg X.base (L2.CX X.prog X.w) k g sp) (hr : Room k X.A) (hx : ∀ σ, PassesAt (L2.CX X.prog X.w) X σ E) : OpR X (compareOp .Eq) (oEqO X.K c sp E) := by
  intro pins s σ H x y v u Q I rx ry q
  have own : ∀ a b, x = .ref a → y = .ref b → (IsO X.K H c a (IsO X.K H c b (sp [.ref a, .ref b] H Q E))) → wpAny (model X.prog X.w) X.A (compareOp .Eq v u) (EP X pins σ Q) X.xe s := by
    intro a b ex ey q1
    clear q
    subst ex ey
    cases rx
    cases ry
    obtain ⟨⟨dx, vs, hsl⟩, ⟨⟨dy, ws, hsl2⟩, q⟩⟩ := q1
    obtain ⟨sl, od, _, J, _⟩ := SlX.slt_inst I hsl
    obtain ⟨sl', od', _, J', _⟩ := SlX.slt_inst I hsl2
    obtain ⟨m, hF⟩ := I.fr
    show wpAny _ _ (richCompare .Eq (.ref a) (.ref b)) _ _ _
    refine PySem.W.cmp_K (op := .Eq) (tb := .ref (He.ga X.K c)) hr.units0 hF I.ok.mod.kin J J'.type (by unfold PySem.W.notFirst; simp) hm.at_ hm.fn ?_
    refine wpAny_mono (run_op (us := [.ref a, .ref b]) (vs := [.ref a, .ref b]) F hr I.env0 hx I (.cons rfl (.cons rfl .nil)) q) (fun w s' z => ?_) fun _ _ x => x
    obtain ⟨z', H', I', rz, qz⟩ := z
    exact SlX.cmpback rz ⟨z', H', I', rz, qz⟩
  have h0 : OpR X (compareOp .Eq) (oEq X.K) := o_eq hr.units
  cases x <;> cases y <;> first
    | (refine Or.elim (EqOr.ex q) (fun q1 => own _ _ rfl rfl q1) fun q1 => h0 pins s σ H _ _ v u Q I rx ry q1)
    | exact h0 pins s σ H _ _ v u Q I rx ry q
end
def oNo : R2 := fun _ _ _ _ => False
theorem o_no {X : Cx} {f : Value → Value → Sem Value} : OpR X f oNo := fun _ _ _ _ _ _ _ _ _ _ _ _ h => h.elim
/-! ### tuples of the module -/
def TupG (K : Frag) (x : Str) (vs : List V) : Prop := ∀ H, SqT K H (He.ga K x) vs
theorem tupG_ok {K : Frag} {x : Str} {vs : List He.Dv} (h : He.tupB K x vs = true) : TupG K x (vs.map (He.Dv.v K)) := fun H => He.tupB_ok h H
end S
namespace S
open PySem PySem.Spec PyProof.Rows L2
/-! ### enumerate over a tuple -/
set_option maxHeartbeats 4000000 in
theorem meets_enum1 {v : Value} {o : Obj} {H : Heap → Prop} (B : Begins v o H) :
    Meets (Builtin.«enumerate.__new__» ⟨[.type "enumerate", v], []⟩) (fun _ R s => H s.heap ∧
      R (.ok (.ret (.ref (s.heap.push o).objs.size))) { s with heap := (s.heap.push o).push { cls := .type "enumerate", data := .fields #[.none, .bool false, .ref s.heap.objs.size, rawInt 0, .none, .none] } }) :=
  .of_wp fun prog w A R s h => by
    obtain ⟨hp, g, d, tk, os⟩ := s; obtain ⟨h1, h⟩ := h
    have hsub := sub_enumerate
    have q1 : ∀ {A' : Around} {E : Value → Shared → Prop} {Q : Value → Shared → Prop}, Q (.ref hp.objs.size) ⟨hp.push o, g, d, tk, os⟩ → wpAny (model prog w) A' (pyIter v) Q E ⟨hp, g, d, tk, os⟩ :=
      fun q => B.iter prog w _ _ ⟨hp, g, d, tk, os⟩ _ h1 q
    wp_walk using q1
    refine wpAny_stack_any fun st => wpAny_pure ?_
    split
    · rename_i c _ _ _ _ _
      cases (c == Value.type "enumerate")
      · wp_walk using q1
        exact ⟨_, rfl, h⟩
      · wp_walk using q1
        exact ⟨_, rfl, h⟩
    · wp_walk using q1
      exact ⟨_, rfl, h⟩
theorem enum_begins1 {prog : Program} {w : World} {A : Around} {E : Value → Shared → Prop} {s : Shared} {v : Value} {o : Obj} {H : Heap → Prop} {Q : Value → Shared → Prop} (B : Begins v o H) (h1 : H s.heap)
    (h : ∀ h', IsEnum h' (s.heap.objs.size + 1) s.heap.objs.size 0 .none → h'.get? s.heap.objs.size = some o → h'.objs.size = s.heap.objs.size + 2 →
      (∀ b o, s.heap.get? b = some o → h'.get? b = some o) → Q (.ref (s.heap.objs.size + 1)) { s with heap := h' }) :
    wpAny (model prog w) A (call (.type "enumerate") [v]) Q E s := by
  refine callType_new F.called_enumerate (by decide) (F.typeCall_enumerate_1 _) (F.newCall_enumerate_1 _) (fun obj => F.args_object_init_2 obj _) F.entry_enumerate_new
    (meets_enum1 B) ⟨h1, ?_⟩
  have hz : (s.heap.push o).objs.size = s.heap.objs.size + 1 := Heap.size_push ..
  show _ ∧ _
  rw [hz]
  have he : IsEnum ((s.heap.push o).push { cls := .type "enumerate", data := .fields #[.none, .bool false, .ref s.heap.objs.size, rawInt 0, .none, .none] }) (s.heap.objs.size + 1) s.heap.objs.size 0 .none := by
    have := Heap.get?_push_size (s.heap.push o) (o := { cls := .type "enumerate", data := .fields #[.none, .bool false, .ref s.heap.objs.size, rawInt 0, .none, .none] }) rfl
    rw [hz] at this; exact this
  refine ⟨⟨_, he, rfl⟩, h _ he (Heap.get?_push_of_some _ (Heap.get?_push_size _ B.free)) (by rw [Heap.size_push, hz]) fun b o x => Heap.get?_push_of_some _ (Heap.get?_push_of_some _ x)⟩
/-- the tuple at a, each item in a new pair -/
def Iet (K : Frag) (a : Addr) : It :=
  ⟨fun i H => ∃ (xs : List V) (x : V), SqT K H a xs ∧ xs[i]? = some x, fun i H v H' => ∃ T x, v = .ref T ∧ H T = none ∧ H' = upd H T (.tup [.int (i : Nat), x]) ∧ ∀ xs, SqT K H a xs → xs[i]? = some x, fun i H => ∃ xs : List V, SqT K H a xs ∧ xs.length ≤ i⟩
theorem enum_endT {prog : Program} {w : World} {A : Around} {E : Value → Shared → Prop} {s : Shared} {e it l : Addr} {i : Nat} {c : Int} {items : Array Value} {old : Value} {Q : Option Value → Shared → Prop} (hh : A.handled = none)
    (he : IsEnum s.heap e it c old) (hit : s.heap.IsTupleIter it l i) (hl : s.heap.IsTuple l items) (hx : items[i]? = none)
    (hQ : ∀ h', Heap.ExtBut it s.heap h' → Q none { s with heap := h' }) : wpAny (model prog w) A (pyNext (.ref e)) Q E s := by
  have hT : s.TypeIs (.ref e) "enumerate" := ⟨_, he, rfl⟩
  unfold pyNext
  refine wpAny_bind (wpAny_attempt (wpAny_callSpecial?_slot (name := Str.ofString "__next__") hT F.slot_enumerate_next
    (wpAny_call_entry F.slot_enumerate_next hT F.entry_enumerate_next ?_ (F.args_enumerate_next_1 _))))
  show wpAny _ _ (field (.ref e) 2 >>= _) _ _ _
  refine wpAny_bind (wpAny_field he rfl (x := .ref it) rfl ?_)
  refine wpAny_bind (wpAny_nextOf_tuple_end hh hit hl hx fun h' x he' hx' => ?_)
  obtain ⟨o, ho, hc⟩ := hx'
  refine wpAny_bind (wpAny_isInstance (T := "StopIteration") (b := true) ⟨o, ho, hc⟩ isSubtype_stop ?_)
  exact wpAny_pure (hQ _ he')
theorem turn_enumT {P : Program} {w : World} {K : Frag} {elts : List Expr} {kk : Nat} {tpos : Pos} (a e it : Addr) :
    Turn P w K (.Tuple elts kk tpos) (Iet K a) [e, it] e (fun i h => (∃ old, IsEnum h e it ((i : Nat) : Int) old) ∧ h.IsTupleIter it a i ∧ e ≠ it) where
  mem := by simp
  obj := fun i h st b hb => by
    obtain ⟨⟨old, he⟩, ⟨o, ho, hc, hd⟩, _⟩ := st
    have e' : b = e ∨ b = it := by simpa using hb
    rcases e' with z | z
    · rw [z]; exact ⟨_, he, fun v q => nomatch q⟩
    · rw [z]; exact ⟨o, ho, fun v q => by rw [hd] at q; cases q⟩
  keep := fun i h h' st k => let ⟨⟨old, he⟩, hi, hne⟩ := st; ⟨⟨old, k e (by simp) _ he⟩, hi.at fun o q => k it (by simp) o q, hne⟩
  item := by
    intro X hP hw hK hc i pins s σ H E I hf st hg
    subst hP hw hK
    obtain ⟨⟨old, he⟩, hit, hne⟩ := st
    obtain ⟨xs, x, hq, hx⟩ := hg
    obtain ⟨its, rv, p, hz⟩ := I.tuple hq
    have ht : s.heap.IsTuple a its.toArray := p
    obtain ⟨u, hu, ru⟩ := rv.get hx
    have hel : e < s.heap.objs.size := Heap.lt_size he
    have hil : it < s.heap.objs.size := by obtain ⟨_, q, _⟩ := hit; exact Heap.lt_size q
    have hat : a ≠ it := by
      rintro rfl
      obtain ⟨o1, e1, c1, _⟩ := hit
      obtain ⟨o2, e2, c2, _⟩ := ht
      rw [e1] at e2; cases e2
      rw [c1] at c2; exact absurd c2 (by simp)
    have hae : e ≠ a := by
      rintro rfl
      obtain ⟨o2, e2, c2, _⟩ := ht
      rw [show s.heap.get? e = _ from he] at e2; cases e2
      exact absurd c2 (by simp)
    have D := Draws.tuple (prog := X.prog) (w := X.w) (A := X.A.in1) (show X.A.in1.handled = none from I.ok.hd hc) it a hat its.toArray
    have hlt : i < its.toArray.size := by
      have := rv.length
      obtain ⟨h1, _⟩ := List.getElem?_eq_some_iff.mp hx
      simp; omega
    refine wpAny_pyNext_enum_itemC D he ⟨hit, ht⟩ hlt hne (by simp; exact ⟨hne, hae⟩) fun u2 h' tk hP ho hst hT hsz hk => ?_
    have eu : u2 = u := by
      have h1 : its.toArray[i]? = some u2 := hP
      rw [List.getElem?_toArray] at h1
      rw [hu] at h1
      exact (Option.some.inj h1).symm
    subst eu
    refine ⟨_, rfl, wpAny_letOwnedTupleGo_enum (s := { s with heap := h', toks := tk + 1 }) ho fun h'' he' sb => ?_⟩
    have hT2 : h''.get? s.heap.objs.size = some { cls := .type "tuple", data := .seq #[.int i tk, u2] } := (sb.2 _ (Nat.ne_of_gt hel)).trans hT
    have new : ObjOk X.prog X.w (upd H s.heap.objs.size (.tup [.int (i : Nat), x])) h'' s.heap.objs.size (.tup [.int (i : Nat), x]) :=
      ⟨by show 2 ≤ sizeLine; decide, [.int i tk, u2], .cons ⟨_, rfl⟩ (.cons ru .nil), ⟨_, hT2, rfl, _, rfl⟩⟩
    have I1 : Inv X pins σ (upd H s.heap.objs.size (.tup [.int (i : Nat), x])) { s with heap := h'', toks := tk + 1 } :=
      I.turnedNew (ch := [e, it]) (fun b ob hb q => (sb.2 b (fun z => hb (by simp [z]))).trans (hk b ob (fun z => hb (by simp [z])) (fun z => hb (by simp [z])) q)) hf (Nat.le_refl _) new
    refine ⟨.ref s.heap.objs.size, _, I1, rfl, ⟨_, x, rfl, I.hok.fresh (Nat.le_refl _), rfl, fun ys hy => by rw [I.tuple_inj hy hq]; exact hx⟩, ⟨⟨u2, ?_⟩, hst.1.at fun o q => (sb.2 it (Ne.symm hne)).trans q, hne⟩, fun b hb => ?_⟩
    · have e1 : ((i + 1 : Nat) : Int) = (i : Int) + 1 := by omega
      rw [e1]; exact he'
    · have hb' : b < s.heap.objs.size := by
        have e' : b = e ∨ b = it := by simpa using hb
        rcases e' with z | z
        · rw [z]; exact hel
        · rw [z]; exact hil
      rw [upd_ne (Nat.ne_of_lt hb')]
      exact (hf b hb).1
  done := by
    intro X hP hw hK hc i pins s σ H E I hf st hg
    subst hP hw hK
    obtain ⟨⟨old, he⟩, hit, hne⟩ := st
    obtain ⟨xs, hq, hx⟩ := hg
    obtain ⟨its, rv, p, hz⟩ := I.tuple hq
    have ht : s.heap.IsTuple a its.toArray := p
    obtain ⟨f0, f1, f2, f3, f4, f5⟩ := hf it (by simp)
    have hl := rv.length
    exact enum_endT (I.ok.hd hc) he hit ht (by simp; omega) fun h' eb => ⟨rfl, I.turned (t' := s.toks) (fun b o hb q => eb b o hb q) f0 f1 f3 f4 f5⟩
  self := fun A i s Q E st h => let ⟨⟨_, he⟩, _⟩ := st; wpAny_pyIter_enum he h
/-- over the tuple at p -/
structure EnW (K : Frag) (H : Hp) (p : Addr) (R : It → Hp → Prop) : Prop where
  ex : ∃ xs, SqT K H p xs
  go : R (Iet K p) H
def iEn (K : Frag) (ta : TE) : TI := fun σ H R => ta σ H fun x H1 => match x with
  | .ref p => EnW K H1 p R
  | _ => False
theorem pi_en {X : Cx} {e : Expr} {ta : TE} {p pos tpos : Pos} {elts : List Expr} {kk : Nat} (hm : X.mg "enumerate" = none) (ha : PE X e ta) (hg : Gl X "enumerate" := by rfl) (hs : starEach [e] X.env = [(false, eval e X.env)] := by rfl) :
    PI X (.Tuple elts kk tpos) (.Call (.Name "enumerate" p) [e] [] pos) (iEn X.K ta) := by
  refine ⟨fun pins s σ H R I h => ?_⟩
  have hA : PA X [e] (tCons ta tNil) := pa_cons ha pa_nil hs
  refine Call_ (ld_blt I hg hm boot_enumerate (PyProof.Rows.callWith_type1 (thn (hA.run pos pins s σ H (fun vs H1 => ∃ a xs, vs = [V.ref a] ∧ SqT X.K H1 a xs ∧ R (Iet X.K a) H1) I ?hq) fun us s1 ⟨vs, H1, I1, r1, q1⟩ => ?_) hs rfl))
  case hq =>
    show ta σ H fun x H1 => _
    have key : ∀ (x : V) (H1 : Hp), (match x with | .ref p => EnW X.K H1 p R | _ => False) → (tNil σ H1 fun xs H2 => ∃ a ys, x :: xs = [V.ref a] ∧ SqT X.K H2 a ys ∧ R (Iet X.K a) H2) := by
      intro x H1 q
      cases x <;> try exact q.elim
      obtain ⟨⟨xs, hx⟩, q⟩ := q
      exact ⟨_, xs, rfl, hx, q⟩
    have e : (fun (x : V) (H1 : Hp) => (match x with | .ref p => EnW X.K H1 p R | _ => False)) = fun x H1 => (tNil σ H1 fun xs H2 => ∃ a ys, x :: xs = [V.ref a] ∧ SqT X.K H2 a ys ∧ R (Iet X.K a) H2) := by
      funext x H1
      refine propext ⟨key x H1, fun ⟨a, ys, e, hy, q⟩ => ?_⟩
      have e2 : x = .ref a := (List.cons.inj e).1
      subst e2
      exact ⟨⟨ys, hy⟩, q⟩
    rw [← e]
    exact h
  obtain ⟨a, xs, ex, hq, q⟩ := q1
  subst ex
  cases r1 with
  | cons r rr =>
    cases rr
    cases r
    obtain ⟨its, rv, p', hz⟩ := I1.tuple hq
    refine enum_begins1 (begins_tuple a its.toArray) (show s1.heap.IsTuple a its.toArray from p') fun h' he hit hsz hk => wpAny_pyIter_enum he ?_
    have I2 : Inv X pins σ H1 { s1 with heap := h' } := I1.kept (t' := s1.toks) hk
    refine ⟨s1.heap.objs.size + 1, [s1.heap.objs.size + 1, s1.heap.objs.size], _, _, H1, rfl, I2, turn_enumT a (s1.heap.objs.size + 1) s1.heap.objs.size, ⟨⟨.none, he⟩, ⟨_, hit, rfl, rfl⟩, Nat.succ_ne_self _⟩, fun b hb => ?_, q⟩
    have e' : b = s1.heap.objs.size + 1 ∨ b = s1.heap.objs.size := by simpa using hb
    have hle : s1.heap.objs.size ≤ b := by
      rcases e' with z | z
      · rw [z]; exact Nat.le_add_right _ _
      · rw [z]; exact Nat.le_refl _
    exact I1.fpOk hle (I1.hok.fresh hle)
/-- a loop over them: each pair is new -/
theorem for_en {K : Frag} {p : Addr} {xs : List V} {g : TG} {tb : TS} {D : Ends} {σ : L2.St} {H : Hp} (Pv : Nat → L2.St → Hp → Prop) (hx : SqT K H p xs) (h0 : Pv 0 σ H) (hl : ∀ i σ H', i ≤ xs.length → Pv i σ H' → SqT K H' p xs)
    (hs : ∀ (i : Nat) x σ H, xs[i]? = some x → Pv i σ H → ∀ T, H T = none → g (.ref T) σ (upd H T (.tup [.int (i : Int), x])) fun σ2 H2 => tb { D with nx := Pv (i + 1), ct := Pv (i + 1), bk := D.nx } σ2 H2) (hd : ∀ σ H, Pv xs.length σ H → D.nx σ H) :
    EnW K H p (LoopR D g tb σ) := by
  refine ⟨⟨xs, hx⟩, fun i m σ H => i ≤ xs.length ∧ m = xs.length - i ∧ Pv i σ H, ⟨_, Nat.zero_le _, rfl, h0⟩, ?_⟩
  rintro i m σ H ⟨hi, rfl, hp⟩
  have hq := hl i σ H hi hp
  by_cases hlt : i < xs.length
  · have hxi : xs[i]? = some xs[i] := List.getElem?_eq_getElem hlt
    refine .inr ⟨⟨xs, _, hq, hxi⟩, Pv (i + 1), fun σ' H' q => ⟨_, by omega, by omega, rfl, q⟩, ?_⟩
    rintro v H' ⟨T, y, rfl, hT, rfl, hy⟩
    have e := hy xs hq
    exact hs i y σ H e hp T hT
  · have e : i = xs.length := by omega
    subst e
    exact .inl ⟨⟨xs, hq, Nat.le_refl _⟩, hd _ _ hp⟩
/-- x in a list or tuple of scalars -/
def oIn (K : Frag) : R2 := fun x y H Q => match y with
  | .ref p => Rd K H p fun xs => Need (flatV x = true ∧ xs.all flatV = true) (Q (.bl (inV x xs)) H)
  | _ => False
def oNin (K : Frag) : R2 := fun x y H Q => match y with
  | .ref p => Rd K H p fun xs => Need (flatV x = true ∧ xs.all flatV = true) (Q (.bl (!inV x xs)) H)
  | _ => False
theorem o_in {X : Cx} : OpR X (compareOp .In) (oIn X.K) := OpR.of op_in_seq fun x y H Q q => by
  cases y <;> try exact q.elim
  obtain ⟨⟨xs, hx, ⟨⟨f1, f2⟩, q⟩⟩⟩ := q
  exact ⟨_, xs, rfl, hx, f1, f2, q⟩
theorem o_nin {X : Cx} : OpR X (compareOp .NotIn) (oNin X.K) := OpR.of op_notIn_seq fun x y H Q q => by
  cases y <;> try exact q.elim
  obtain ⟨⟨xs, hx, ⟨⟨f1, f2⟩, q⟩⟩⟩ := q
  exact ⟨_, xs, rfl, hx, f1, f2, q⟩
theorem inV_int (i : Int) (ns : List Int) : inV (.int i) (ns.map V.int) = decide (i ∈ ns) := by
  induction ns with
  | nil => rfl
  | cons x r ih =>
    show (eqV (.int x) (.int i) || inV (.int i) (r.map V.int)) = _
    rw [ih]
    have e : eqV (.int x) (.int i) = decide (i = x) := by
      show (x == i) = _
      by_cases h : i = x
      · subst h; simp
      · rw [decide_eq_false h, beq_eq_false_iff_ne]; exact fun z => h z.symm
    rw [e]
    by_cases h : i = x <;> by_cases h2 : i ∈ r <;> simp [h, h2]
theorem flat_ints (ns : List Int) : (ns.map V.int).all flatV = true := by
  induction ns with
  | nil => rfl
  | cons x r ih => rw [List.map_cons, List.all_cons, ih]; rfl
/-- sorted(a list of numbers) -/
structure Srt (K : Frag) (H : Hp) (p : Addr) (Q : V → Hp → Prop) : Prop where
  ex : ∃ ns : List Int, SqL K H p (ns.map V.int) ∧ ∀ (ns' : List Int) (q : Addr), ns'.Perm ns → ns'.Pairwise (· ≤ ·) → H q = none → Q (.ref q) (upd H q (.lst (ns'.map V.int)))
def cSorted (K : Frag) : List V → Hp → VK → Prop := fun xs H Q => match xs with
  | [.ref p] => Srt K H p Q
  | _ => False
theorem c_sorted {X : Cx} : CallR X (.builtin "sorted") (cSorted X.K) := CallR.of cr_sortedI fun xs H Q q => by
  match xs, q with
  | [.ref p], ⟨⟨ns, h1, h2⟩⟩ => exact ⟨p, ns, rfl, h1, h2⟩
/-- code that is never reached: its reading asks for the impossible -/
def dNo : TS := fun _ _ _ => False
theorem ps_no {X : Cx} {e : Stmt} : PS X e dNo := ⟨fun _ _ _ _ _ _ h => h.elim⟩
end S
namespace S
open PySem PySem.Spec PyProof.Rows L2
/-! ### number * number, list * number -/
def oMulA : R2 := fun x y H Q => match x, y with
  | .int i, .int j => Need (CMul i j) (Q (.int (i * j)) H)
  | .ref l, .int k => Ls H l fun xs => Need (-(2 ^ 63) ≤ k ∧ k < 2 ^ 63 ∧ xs.length * k.toNat ≤ sizeLine) (NewL H (List.replicate k.toNat xs).flatten Q)
  | _, _ => False
theorem o_mulA {X : Cx} : OpR X (binaryOp .Mult) oMulA := OpR.of (op_mul.or op_rep) fun x y H Q q => by
  cases x <;> cases y <;> try exact q.elim
  · exact .inl ⟨_, _, rfl, rfl, q.c, q.q⟩
  · obtain ⟨⟨xs, h, ⟨⟨h1, h2, h3⟩, ⟨q⟩⟩⟩⟩ := q
    exact .inr ⟨_, _, xs, rfl, rfl, h, h1, h2, h3, q⟩
/-! ### staticmethods -/
structure StF (K : Frag) (c m : Str) : Prop where
  rd : PySem.W.readsIn K (He.ga K c) (.type "type") = true
  ga : PySem.W.specialIn K (.ref (He.ga K c)) "__getattribute__" = some (some (.builtin "type.__getattribute__"))
  at_ : PySem.W.findCls K (.ref (He.ga K c)) (.type "type") m = some (.get (.builtin "staticmethod.__get__") (.ref (He.ma K (He.ga K c) m)) .none (.ref (He.ga K c)))
  rc : ∃ rest, PySem.W.recIn K (He.ma K (He.ga K c) m) "staticmethod" = some (.ref (uA K c m) :: rest)
  kp : PySem.W.keepIn K (.ref (uA K c m)) = true
def statB (c m : Str) (K : Frag) : Bool := PySem.W.readsIn K (He.ga K c) (.type "type") && (He.eqO (PySem.W.specialIn K (.ref (He.ga K c)) "__getattribute__") (some (some (.builtin "type.__getattribute__"))) &&
  ((match PySem.W.findCls K (.ref (He.ga K c)) (.type "type") m with
    | some (.get (.builtin g) (.ref p) .none (.ref D)) => decide (g = "staticmethod.__get__") && (decide (p = He.ma K (He.ga K c) m) && decide (D = He.ga K c))
    | _ => false) && ((match PySem.W.recIn K (He.ma K (He.ga K c) m) "staticmethod" with
    | some (.ref g :: _) => decide (g = uA K c m)
    | _ => false) && PySem.W.keepIn K (.ref (uA K c m)))))
theorem statB_ok {K : Frag} {c m : Str} (h : statB c m K = true) : StF K c m := by
  obtain ⟨h1, h⟩ := He.ba h
  obtain ⟨h2, h⟩ := He.ba h
  obtain ⟨h3, h⟩ := He.ba h
  obtain ⟨h4, h5⟩ := He.ba h
  refine ⟨h1, He.eqO_ok h2, ?_, ?_, h5⟩
  · clear h4
    split at h3
    · rename_i g p D e
      obtain ⟨k1, k⟩ := He.ba h3
      obtain ⟨k2, k3⟩ := He.ba k
      rw [e, of_decide_eq_true k1, of_decide_eq_true k2, of_decide_eq_true k3]
    · cases h3
  · clear h3
    split at h4
    · rename_i g r e
      rw [of_decide_eq_true h4] at e
      exact ⟨r, e⟩
    · cases h4
section
variable {X : Cx} {k : Nat} {sp : Sp} {E : L2.St → XK} {c m : Str} {pos apos : Pos} {o e : Expr} {es : List Expr} {t : TA}
theorem getstat_ok {pins : List (Addr × Obj)} {σ : L2.St} {H : Hp} {s : Shared} {A : Around} {E : Value → Shared → Prop} {pl : Sem Bool} {Q : Value × List Value → Shared → Prop} (I : Inv X pins σ H s) (r : StF X.K c m) (h : ∀ s', Inv X pins σ H s' → Q (.ref (uA X.K c m), []) s') :
    wpAny (model X.prog X.w) A (getMethod (.ref (He.ga X.K c)) m pl) Q E s := by
  obtain ⟨rest, hp⟩ := r.rc
  refine PySem.W.method_cls I.kIn r.ga (PySem.W.cls_bind I.kIn r.rd r.at_ ?_)
  refine wpAny_call (PySem.W.sm_get (s := { s with toks := s.toks + 1 }) I.kIn hp (PySem.W.handed_on rfl ?_))
  exact h _ (I.tok _)
/-- C.m(e, ..), m a staticmethod -/
def dStat (K : Frag) (sp : Sp) (E : L2.St → XK) (t : TA) : TE := fun σ H Q => t σ H fun vs H1 => sp vs H1 Q (E σ)
theorem pe_stat {pl : Sem Bool} (r : StF X.K c m) (F : FnR X.prog X.w X.K X.mg X.base (L2.CX X.prog X.w) k (uA X.K c m) sp) (hr : Room k X.A) (hx : ∀ σ, PassesAt (L2.CX X.prog X.w) X σ (E σ)) (he : PE X o (tC (.ref (He.ga X.K c)))) (ha : PA X (e :: es) t)
    (hst : starEach (e :: es) X.env = (false, eval e X.env) :: starEach es X.env := by rfl) (hpl : (backTo pos (starEach es X.env)).any (·.1) = false := by rfl)
    (ht : eval (.Call (.Attribute o m apos) (e :: es) [] pos) X.env = (do
      let ov ← eval o X.env
      standAt apos.atName
      let (f, first) ← holding [ov] (getMethod ov m pl)
      callWith pos f first (backTo pos (starEach (e :: es) X.env)) (backToKw pos (keywordEach [] X.env))) := by rfl) :
    PE X (.Call (.Attribute o m apos) (e :: es) [] pos) (dStat X.K sp E t) := by
  refine ⟨fun pins s σ H Q I h => ?_⟩
  refine PySem.W.methodCall_KW (pl := pl) (thn (he.run pins s σ H (fun x H1 => x = .ref (He.ga X.K c) ∧ t σ H1 fun vs H2 => sp vs H2 Q (E σ)) I ⟨rfl, h⟩) fun u s1 ⟨x, H1, I1, rx, ex, q⟩ => ?_) ht
  subst ex
  cases rx
  refine getstat_ok I1 r fun s2 I2 => ?_
  refine PySem.W.callWith_K (first := []) (h₀ := X.base) I2.ok.mod.kin r.kp (thn (ha.run pos pins s2 σ H1 _ I2 q) fun us s3 ⟨ws, H2, I3, r3, q2⟩ => ⟨I3.kIn, ?_⟩) hst hpl
  exact run_R F hr (hx σ) I3 r3 q2
end
end S
namespace S
open PySem PySem.Spec PyProof.Rows L2
/-! ### exceptions with an own __init__ over super().__init__ -/
def oexB (c : Str) (K : Frag) : Bool := (match K.lookup (He.ga K c) with
  | some ⟨.type "type", _, .cls cd, sl⟩ => (match cd.mro, sl.toList with
    | .ref C' :: bm, [_, _, _, _, some (.builtin n), _] => C' == He.ga K c && n == "ValueError.__new__" && !cd.hasDel && cd.hasDict && PySem.HandSPX.refsVE bm
    | _, _ => false)
  | _ => false) && (He.eqO (PySem.W.findIn K (.ref (He.ga K c)) "__setattr__") (some (some (.builtin "object.__setattr__"))) && (decide (PySem.W.subIn K (.ref (He.ga K c)) (.type "BaseException") = some true) &&
    (decide (PySem.W.typeIn K (.ref (He.ga K c)) = some (.type "type")) && PySem.W.keepIn K (.ref (He.ga K c)))))
theorem oexB_ok {K : Frag} {c : Str} (h : oexB c K = true) : OexC K (He.ga K c) := by
  obtain ⟨h1, h⟩ := He.ba h
  obtain ⟨h2, h⟩ := He.ba h
  obtain ⟨h3, h⟩ := He.ba h
  obtain ⟨h4, h5⟩ := He.ba h
  refine ⟨?_, He.eqO_ok h2, of_decide_eq_true h3, of_decide_eq_true h4, h5⟩
  clear h2 h3 h4 h5 h
  split at h1
  · rename_i dd cd sl ho
    split at h1
    · rename_i C' bm k0 k1 k2 k3 n k5 hm hs
      simp only [Bool.and_eq_true, beq_iff_eq, Bool.not_eq_true'] at h1
      obtain ⟨⟨⟨⟨e1, rfl⟩, hdel⟩, hd⟩, ht⟩ := h1
      obtain ⟨nm, bs, mro, ns, qn, hdc, sn, sub, ab, col, del⟩ := cd
      dsimp only at hm hdel hd
      subst hm hdel hd
      have hsl : sl = #[k0, k1, k2, k3, some (.builtin "ValueError.__new__"), k5] := by
        obtain ⟨l⟩ := sl
        simp only at hs
        rw [hs]
      subst hsl
      exact ⟨nm, qn, ns, bs, bm, sn, sub, ab, col, dd, k0, k1, k2, k3, k5, by rw [ho, e1], ht⟩
    · cases h1
  · cases h1
/-- what the written part says of such a class: fI its __init__ -/
structure XiF (P : Program) (K : Frag) (c fld nm qual : Str) (params : Arguments) (body : List Stmt) (scope : Scope) (fI : Addr) (fd : FuncData) : Prop where
  fn : ∃ oc od osl kV doc pm an cda ct cc, fd = PySem.W.ksFn nm qual params body scope .none kV doc pm an (.ref cda) ct cc ∧ K.lookup fI = some ⟨oc, od, .func fd, osl⟩ ∧ PySem.W.codeIn K (.ref cda) qual = true ∧
    (∃ cl cld csl, K.lookup cc = some ⟨cl, cld, .cell (some (.ref (He.ga K c))), csl⟩) ∧ ∃ ccl cdd vs ccs file tf, K.lookup cda = some ⟨ccl, cdd, .fields vs, ccs⟩ ∧ vs[2]? = some (.str file tf) ∧ ((P.main.file : Str) == file) = true
  sub : PySem.W.mroIn K (He.ga K c) (.ref (He.ga K c)) = some true
  sup : PySem.W.ks_superIn K (He.ga K c) (He.ga K c) "__init__" = some (some (.builtin "ValueError.__init__"))
  ve : PySem.W.subIn K (.ref (He.ga K c)) (.type "ValueError") = some true
  st : PySem.W.nsIn K cStatics "thirdparty.any" = some none
  oex : OexC K (He.ga K c)
  no : PySem.W.findIn K (.ref (He.ga K c)) fld = some none
  ini : PySem.W.findIn K (.ref (He.ga K c)) "__init__" = some (some (.ref fI))
  tI : PySem.W.typeIn K (.ref fI) = some (.type "function")
  top : (P.main.scope.names.lookup ("super" : Str)).isSome = false
/-- the promise: the field is kept -/
def spXi (K : Frag) (c fld : Str) : Sp := fun vs H Q _ => ∃ (a : Addr) (v : V), vs = [.ref a, v] ∧ H a = some (exo a (He.ga K c) none) ∧ ∀ dx, H dx = none → dx ≠ a → Q .non (upd (upd H dx (exd dx [(fld, v)])) a (exo a (He.ga K c) (some dx)))
section
variable {P : Program} {w : World} {K : Frag} {mg : Str → Option Value} {base : Heap} {CX : CXT} {c fld nm qual par msg : Str} {params : Arguments} {body : List Stmt} {scope : Scope} {fI : Addr} {fd : FuncData} {p0 p1 p2 p3 p4 p5 p6 p7 p8 p9 : Pos} {j : Nat}
theorem xi_ok {k : Nat} {pl : Env → Sem Bool} (D : XiF P K c fld nm qual params body scope fI fd) (hms : mg "super" = none)
    (hbody : body = [.Expr (.Call (.Attribute (.Call (.Name "super" p0) [] [] p1) "__init__" p2) [.Constant (.str msg) j p3] [] p4) p5, .Assign [.Attribute (.Name "self" p6) fld p7] (.Name par p8) p9])
    (hp : ∃ ar, (params.posonlyargs ++ params.args).head? = some ar ∧ ar.arg = "self") (hk : scope.kind = .function) (hco : scope.isCoroutine = false) (hgen : scope.isGenerator = false) (hcell : ∀ x ∈ scope.names, x.2 ≠ .cell)
    (hks : scope.names.lookup ("super" : Str) = some .globalImplicit) (hkc : scope.names.lookup ("__class__" : Str) = some .free) (hka : scope.names.lookup ("self" : Str) = some .local) (hkp : scope.names.lookup par = some .local) (hne : par ≠ "self") (hpd : (par == ("__debug__" : Str)) = false)
    (hsw : ∀ env, swapsWith (.Name par p8) (some (.Attribute (.Name "self" p6) fld p7)) p9.line env = pure false) (hsw2 : ∀ env, swapsWith (.Call (.Attribute (.Call (.Name "super" p0) [] [] p1) "__init__" p2) [.Constant (.str msg) j p3] [] p4) none p5.line env = pure false)
    (hev : ∀ env, eval (.Call (.Attribute (.Call (.Name "super" p0) [] [] p1) "__init__" p2) [.Constant (.str msg) j p3] [] p4) env = (do
      let ov ← attributeBase (.Call (.Name "super" p0) [] [] p1) "__init__" env (eval (.Call (.Name "super" p0) [] [] p1) env)
      standAt p2.atName
      let (f, first) ← holding [ov] (getMethod ov "__init__" (pl env))
      callWith p4 f first (backTo p4 (starEach [.Constant (.str msg) j p3] env)) [])) :
    FnOk P w K mg base CX k fI fd ["self", par] (spXi K c fld) := by
  refine ⟨fun vs H Q E h => by obtain ⟨a, v, rfl, _⟩ := h; rfl, fun A outer s H args us vs Q E hr e0 hb rv hsp => ?_⟩
  obtain ⟨a, v, rfl, ha, q⟩ := hsp
  obtain ⟨oc, od, osl, kV, doc, pm, an, cda, ct, cc, rfl, lk, hcd, ⟨cl, cld, csl, lc⟩, ccl, cdd, fvs, ccs, file, tf, lcd, hvs, hfile⟩ := D.fn
  cases rv with
  | @cons _ u0 _ ur ra rv' =>
    cases rv' with
    | @cons _ uv _ _ rr rn =>
      cases rn
      obtain rfl : u0 = Value.ref a := ra
      have KX : K.In s.heap := e0.mod.kin.keeps fun b o e => (e0.bs b o e).1
      have lim : s.heap.NoLimit := e0.mod.nolimit.keeps fun b o e => (e0.bs b o e).1
      obtain ⟨t1, ho⟩ := exo_at e0.hok ha
      obtain ⟨nmC, qC, NC, bsC, bmC, snC, subC, abC, colC, ddC, k0, k1, k2, k3, k5, hC, hbm⟩ := D.oex.cls
      obtain ⟨ar, har, har2⟩ := hp
      obtain ⟨mb, hmb, hbt⟩ := e0.mod.blt
      have haC : a ≠ He.ga K c := fun z => by
        have hb1 : base.get? (He.ga K c) = _ := e0.mod.kin _ _ hC
        have := (e0.bs _ _ hb1).2
        rw [← z, ha] at this
        cases this
      subst hbody
      have hlk1 : ([(("self" : Str), Value.ref a), (par, uv)] : List (Str × Value)).reverse.lookup ("self" : Str) = some (Value.ref a) := by
        have e : (("self" : Str) == par) = false := by rw [beq_eq_false_iff_ne]; exact fun z => hne z.symm
        simp [List.lookup, e]
      have hlk2 : ([(("self" : Str), Value.ref a), (par, uv)] : List (Str × Value)).reverse.lookup par = some uv := by simp [List.lookup]
      refine PySem.ks_codeAny_call_defAt (binds := [("self", .ref a), (par, uv)]) hr.depth (KX _ _ lk) rfl lim (PySem.W.codeRec_of KX hcd) rfl hb hcell (fun y hy => ?_) (fun h₁ hns keep => ?_) hco hgen hk
      · rcases List.mem_cons.mp hy with rfl | hy
        · exact hka
        · rw [List.mem_singleton.mp hy]; exact hkp
      have K1 : K.In h₁ := KX.keeps keep
      have g1 : h₁.Ns mainGlobals mg := e0.mod.glob.keeps fun b o e => keep b o (e0.bs b o e).1
      have b1 : h₁.Ns builtinsNs mb := hmb.keeps fun b o e => keep b o (e0.bs b o e).1
      have nL : s.heap.objs.size ≠ a := Nat.ne_of_gt (Heap.lt_size ho)
      refine PySem.ks_wpAt_execs_cons (PySem.ks_wpAt_Expr_any (hi := by unfold interactive; show (scope.kind == _ && _) = false; rw [hk]; rfl) (hs := hsw2 _) (PySem.ks_wpAt_MethodCall (he := hev _) (PySem.ks_wpAt_super_base hks hkc (by decide) rfl (K1 _ _ lk) rfl har rfl (K1 _ _ lcd) rfl hvs hfile D.top ?_)))
      rw [har2]
      refine PySem.W.ks_loadName_global hk hks (Calls.loadGlobal_builtin g1 hms b1 ((hbt "super" (by decide)).trans (by decide +kernel : bootBuiltins ("super" : Str) = some (.type "super"))) ⟨rfl, ?_⟩)
      refine wpAny_loadName_free hk hkc rfl ⟨_, K1 _ _ lc, rfl⟩ ?_
      refine wpAny_loadName_local hk hka hns hlk1 ?_
      obtain ⟨sh, sg, sd, stk, sos⟩ := s
      refine PySem.ks_wpAny_isType_cls (K1 _ _ hC) rfl ⟨rfl, ?_⟩
      refine PySem.ks_wpAny_call_super (K1 _ _ hC) rfl (keep _ _ ho) rfl (fun c z => nomatch z) (PySem.W.looks_mroIn K1 D.sub) fun h2 hso kp2 => ?_
      have K2 : K.In h2 := K1.keeps kp2
      have ho2 := kp2 _ _ (keep _ _ ho)
      have I2 : PySem.W.InstAt h2 a _ (He.ga K c) none := ⟨ho2, rfl, rfl, trivial⟩
      obtain ⟨cd, hcl, hal⟩ : ∃ cd, PySem.W.clsIn K (He.ga K c) = some cd ∧ PySem.W.alongIn K "__init__" ((cd.mro.dropWhile (· != .ref (He.ga K c))).drop 1) = some (some (.builtin "ValueError.__init__")) := by
        have hm := D.sup
        unfold PySem.W.ks_superIn at hm
        cases hc : PySem.W.clsIn K (He.ga K c) with
        | none => rw [hc] at hm; cases hm
        | some cd => rw [hc] at hm; exact ⟨cd, rfl, hm⟩
      refine PySem.W.kxs_getMethod PySem.W.kxs_ValueError hso (PySem.W.looks_opaque K2 D.st) (l₀ := cd.mro) (fun A Q E s k q => wpAny_bind ((PySem.W.looks_clsIn K2 hcl) A _ E s k (wpAny_pure q))) rfl K2 hal (I2.type.andThen (PySem.W.looks_subIn K2 D.ve)) haC (by decide) ?_
      have K3 : K.In (h2.push (PySem.W.kxs_mw "ValueError.__init__" a)) := K2.keeps fun b o e => Heap.get?_push_of_some _ e
      have hu : (h2.push (PySem.W.kxs_mw "ValueError.__init__" a)).get? h2.objs.size = some (PySem.W.kxs_mw "ValueError.__init__" a) := Heap.get?_push_at rfl rfl
      have ho3 := Heap.get?_push_of_some (PySem.W.kxs_mw "ValueError.__init__" a) ho2
      refine PySem.W.kxs_callWith (i := "ValueError.__init__") (x := a) rfl (Calls.evalArgs_plain ?_)
      show wpAny _ _ (spliced ((false, eval (.Constant (.str msg) j p3) _) :: backTo p4 (starEach [] _))) _ _ _
      refine Calls.spliced_cons (wpAny_Constant_str ?_)
      refine Calls.spliced_nil ⟨hu, ?_⟩
      refine wpAny_call (codeAny_of_tree ?_)
      show wpAny _ _ (callAny (.ref h2.objs.size) ⟨[.str msg _], []⟩) _ _ _
      simp only [callAny]
      refine wpAny_bind (wpAny_load hu ?_)
      simp only [PySem.W.kxs_mw, show (Value.type "method-wrapper" == Value.type "method" || Value.type "method-wrapper" == Value.type "builtin_function_or_method" || Value.type "method-wrapper" == Value.type "method-wrapper") = true by decide, if_true]
      refine PySem.W.KFB.if_so (by decide) ?_
      refine wpAny_bind (PySem.W.check_bound_init PySem.F.excBase_ValueError.toExcCallFacts (K3 _ _ hC) ho3 rfl ?_)
      refine wpAny_bind (wpAny_pure (wpAny_pure ?_))
      refine ⟨plainId_quiet PySem.F.excBase_ValueError.init.plain _, codeAny_builtin PySem.F.excBase_ValueError.initEntry ?_⟩
      refine PySem.W.exc_init_tree (cls := .ref (He.ga K c)) (t0 := t1) (dv := none) (c2 := .none) (c3 := .none) (b4 := .bool false) ho3 (by rw [sizeLine_eq]; show 1 ≤ 16777216; decide) fun h4 k4 ho4 _ => ?_
      have kall : ∀ b o, b ≠ a → h₁.get? b = some o → h4.get? b = some o := fun b o hb e => k4 b o hb (Heap.get?_push_of_some _ (kp2 b o e))
      have K4 : K.In h4 := fun b o e => kall b o (fun z => by
        have e1 := (e0.bs _ _ (e0.mod.kin _ _ e)).2
        rw [z, ha] at e1
        cases e1) (K1 _ _ e)
      have hns4 := hns.at (h' := h4) fun o e => kall _ o nL e
      have hcl2 : PySem.W.clsIn K (He.ga K c) = some { name := nmC, bases := bsC, mro := .ref (He.ga K c) :: bmC, ns := NC, qualname := qC, hasDict := true, slotNames := snC, subclasses := subC, abstract := abC, collection := colC, hasDel := false } := by unfold PySem.W.clsIn; rw [hC] <;> rfl
      show _root_.PySem.wpAt _ _ _ (execs [.Assign [.Attribute (.Name "self" p6) fld p7] (.Name par p8) p9] _) _ _ _
      refine PySem.ks_wpAt_execs_cons (wpAt_of_wpAny (plainObj_wpAny_Assign_Attribute (wpAny_Name (wpAny_loadName_local hk hkp hns4 hlk2 (wpAny_Name (wpAny_loadName_local hk hka hns4 hlk1 ?_) (by decide))) hpd) (hsw _)))
      refine PySem.W.set_plain K4 (od := none) ⟨ho4, rfl, rfl, trivial⟩ D.oex.sa ?_
      refine PySem.HandSPX.exc_osa K4 ho4 hcl2 (show PySem.HandSPX.refsVE (.ref (He.ga K c) :: bmC) = true from hbm) rfl D.no (fun h' tk' dx kk dn dne hx hn => ?_)
      have kfin : ∀ b o, b ≠ a → sh.get? b = some o → h'.get? b = some o := fun b o hb e => kk b o hb (kall b o hb (keep b o e))
      have dn0 : sh.objs.size ≤ dx := by
        obtain ⟨o, _, _, e, _⟩ := hns4
        exact Nat.le_trans (Nat.le_of_lt (Heap.lt_size e)) dn
      have hnd : H dx = none := e0.hok.fresh dn0
      have nd : ∀ {b : Addr} {o : Obj}, sh.get? b = some o → b ≠ dx := fun {b o} q => Nat.ne_of_lt (Nat.lt_of_lt_of_le (Heap.lt_size q) dn0)
      have na : ∀ {b : Addr}, H b = none → b ≠ a := fun {b} n z => by
        rw [z, ha] at n
        cases n
      show _root_.PySem.wpAt _ _ _ (execs [] _) _ _ _
      refine wpAt_of_wpAny (wpAny_execs_nil ?_)
      refine ⟨.non, upd (upd H dx (exd dx [(fld, v)])) a (exo a (He.ga K c) (some dx)), rfl, e0.bare, ⟨fun b o q n _ _ => kfin b o (na n) q, fun b o q n _ _ => ⟨o.slots, kfin b o (na n) q⟩, fun b o q n _ => by rw [upd_ne (na n), upd_ne (nd q)]; exact n, fun b o q _ => ?_, fun b xs q => by rw [upd_ne (at_ne ha q exo_tup), upd_ne (ne_of_none q hnd)]; exact q, fun b o v q => by rw [upd_ne (at_ne ha q exo_frz), upd_ne (ne_of_none q hnd)]; exact q, fun b ps q => ⟨#[], by rw [upd_ne (at_ne ha q exo_tbl), upd_ne (ne_of_none q hnd), q]; simp⟩⟩, fun b o q => ?_, rfl, q dx hnd dne⟩
      · by_cases hb : b = a
        · exact ⟨_, by rw [hb]; exact hx⟩
        · exact ⟨o, kfin b o hb q⟩
      · by_cases hb : b = a
        · subst hb
          rw [upd_same] at q
          cases q
          exact exo_ok hx
        · rw [upd_ne hb] at q
          by_cases hd : b = dx
          · subst hd
            rw [upd_same] at q
            cases q
            exact exd_ok hn (relO_put (fs := []) rr fun g => True.intro)
          · rw [upd_ne hd] at q
            exact (e0.hok b o q).stay (fun c v hc z => kfin c v (by
                rcases hc with hc | hc
                · rw [hc]
                  exact hb
                · exact at_ne ha hc exo_own) z)
              (fun c hc => by rw [upd_ne (at_ne ha hc exo_own), upd_ne (ne_of_none hc hnd)]; exact hc) (fun c xs hc => by rw [upd_ne (at_ne ha hc exo_tup), upd_ne (ne_of_none hc hnd)]; exact hc)
end
/-! ### raise C(e) -/
/-- a new exception's dict -/
structure NewX (H : Hp) (fs : List (Str × V)) (k : Addr → Hp → Prop) : Prop where
  go : ∀ d, H d = none → k d (upd H d (.xd fs))
def dRsI (K : Frag) (c fld : Str) (W : WX) (i : Nat) : TS := fun _ σ H => onSome (nth σ i) fun v => NewX H [(fld, v)] fun d H2 => W (.ref (He.ga K c)) (some d) σ H2
theorem xi_heap {H : Hp} {a dx C : Addr} {fld : Str} {v : V} (ha : H a = none) (hd : H dx = none) (hne : dx ≠ a) : upd (del (upd (upd (upd H a (exo a C none)) dx (exd dx [(fld, v)])) a (exo a C (some dx))) a) dx (.xd [(fld, v)]) = upd H dx (.xd [(fld, v)]) := by
  funext b
  by_cases h1 : b = dx
  · rw [h1, upd_same, upd_same]
  · rw [upd_ne h1, upd_ne h1]
    by_cases h2 : b = a
    · rw [h2, del_same, ha]
    · rw [del_ne h2, upd_ne h2, upd_ne h1, upd_ne h2]
theorem ps_rsI {X : Cx} {c fld nm qual par msg : Str} {params : Arguments} {body : List Stmt} {scope : Scope} {fI : Addr} {p0 p1 p2 p3 p4 p5 p6 p7 p8 p9 pp ppos ppos' : Pos} {j : Nat} {pl : Env → Sem Bool} {W : WX} {e : Expr} {ix : Nat} (tk : Takes X W)
    (D : ∃ fd, XiF X.prog X.K c fld nm qual params body scope fI fd) (hms : X.mg "super" = none) (gC : X.mg c = some (.ref (He.ga X.K c))) (hr : Room 1 X.A) (he : PE X e (dVar ix))
    (hbind : ∀ (kV doc pm : Value) (an : Option Addr) (cdv ct : Value) (cc : Addr) (us : List Value), us.length = 2 → bindArgs (PySem.W.ksFn nm qual params body scope .none kV doc pm an cdv ct cc) ⟨us, []⟩ = pure ([("self" : Str), par].zip us))
    (hbody : body = [.Expr (.Call (.Attribute (.Call (.Name "super" p0) [] [] p1) "__init__" p2) [.Constant (.str msg) j p3] [] p4) p5, .Assign [.Attribute (.Name "self" p6) fld p7] (.Name par p8) p9])
    (hp : ∃ ar, (params.posonlyargs ++ params.args).head? = some ar ∧ ar.arg = "self") (hk : scope.kind = .function) (hco : scope.isCoroutine = false) (hgen : scope.isGenerator = false) (hcell : ∀ x ∈ scope.names, x.2 ≠ .cell)
    (hks : scope.names.lookup ("super" : Str) = some .globalImplicit) (hkc : scope.names.lookup ("__class__" : Str) = some .free) (hka : scope.names.lookup ("self" : Str) = some .local) (hkp : scope.names.lookup par = some .local) (hne : par ≠ "self") (hpd : (par == ("__debug__" : Str)) = false)
    (hsw : ∀ env, swapsWith (.Name par p8) (some (.Attribute (.Name "self" p6) fld p7)) p9.line env = pure false) (hsw2 : ∀ env, swapsWith (.Call (.Attribute (.Call (.Name "super" p0) [] [] p1) "__init__" p2) [.Constant (.str msg) j p3] [] p4) none p5.line env = pure false)
    (hev : ∀ env, eval (.Call (.Attribute (.Call (.Name "super" p0) [] [] p1) "__init__" p2) [.Constant (.str msg) j p3] [] p4) env = (do
      let ov ← attributeBase (.Call (.Name "super" p0) [] [] p1) "__init__" env (eval (.Call (.Name "super" p0) [] [] p1) env)
      standAt p2.atName
      let (f, first) ← holding [ov] (getMethod ov "__init__" (pl env))
      callWith p4 f first (backTo p4 (starEach [.Constant (.str msg) j p3] env)) []))
    (hc : X.calm = true := by rfl) (hg : Gl X c := by rfl) (hdb : (c == ("__debug__" : Str)) = false := by decide) (hst : starEach [e] X.env = (false, eval e X.env) :: starEach [] X.env := by rfl) (hpl : (backTo ppos (starEach [] X.env)).any (·.1) = false := by rfl) :
    PS X (.Raise (some (.Call (.Name c pp) [e] [] ppos)) none ppos') (dRsI X.K c fld W ix) := by
  obtain ⟨fd, D⟩ := D
  have F1 : FnOk X.prog X.w X.K X.mg X.base (L2.CX X.prog X.w) 0 fI fd ["self", par] (spXi X.K c fld) := xi_ok D hms hbody hp hk hco hgen hcell hks hkc hka hkp hne hpd hsw hsw2 hev
  have hb : Binds X.K fd ["self", par] [] := by
    obtain ⟨oc, od, osl, kV, doc, pm, an, cda, ct, cc, rfl, _⟩ := D.fn
    exact Binds.all fun us hl => hbind _ _ _ _ _ _ _ us hl
  have pm := pmk_oex (X := X) (p := pp) (pos := ppos) D.oex D.ini D.tI F1 hr hb .nil (fun _ _ _ _ _ _ _ h => by
    obtain ⟨_, _, _, _, _, _, _, _, _, _, _, _, z⟩ := h
    exact z.elim) hg gC (pa_cons he pa_nil hst) hdb hst hpl
  refine PS.of (ps_raise hc tk pm) fun DD σ H q => ?_
  unfold dRsI at q
  show onSome (nth σ ix) _
  cases hx : nth σ ix with
  | none => rw [hx] at q; exact q.elim
  | some v =>
    rw [hx] at q
    have q : NewX H [(fld, v)] fun d H2 => W (.ref (He.ga X.K c)) (some d) σ H2 := q
    refine ⟨show 1 ≤ 1000 by decide, fun a ha => ⟨a, v, rfl, upd_same, fun dx hdx hne => ⟨rfl, dx, [(fld, v)], upd_same, by rw [upd_ne hne, upd_same], ?_, ?_⟩⟩⟩
    · rw [upd_ne hne] at hdx; exact hdx
    · rw [upd_ne hne] at hdx
      rw [xi_heap ha hdx hne]
      exact q.go dx hdx
/-! ### e.f, e the exception of the suite -/
structure XfF (K : Frag) (c fld : Str) : Prop where
  xf : XfC K (He.ga K c)
  no : PySem.W.findIn K (.ref (He.ga K c)) fld = some none
def xffB (c fld : Str) (K : Frag) : Bool := xfB K (He.ga K c) && decide (PySem.W.findIn K (.ref (He.ga K c)) fld = some none)
theorem xffB_ok {K : Frag} {c fld : Str} (h : xffB c fld K = true) : XfF K c fld := let ⟨a, b⟩ := He.ba h; ⟨xfB_ok a, of_decide_eq_true b⟩
structure XAt (K : Frag) (H : Hp) (a : Addr) (cls : Value) (d : Option Addr) (c fld : Str) (x : V) (k : V → Prop) : Prop where
  ex : ∃ (dd : Addr) (fs : List (Str × V)) (v : V), x = .ref a ∧ cls = .ref (He.ga K c) ∧ d = some dd ∧ H dd = some (.xd fs) ∧ fs.lookup fld = some v ∧ k v
def dXf (K : Frag) (a : Addr) (cls : Value) (d : Option Addr) (c fld : Str) (te : TE) : TE := fun σ H Q => te σ H fun x H1 => XAt K H1 a cls d c fld x fun v => Q v H1
theorem pe_xfX {X : Cx} {a : Addr} {oe : Obj} {cls : Value} {d : Option Addr} {pn : List (Addr × Obj)} {e : Expr} {te : TE} {pos : Pos} {c fld : Str} (T : XfF X.K c fld) (hz : Zc cls d oe) (hf : ∃ vs, oe.data = .fields vs) (he : PE (X.suite a ((a, oe) :: pn)) e te)
    (hb : attributeBase e fld X.env (eval e X.env) = eval e X.env := by rfl) : PE (X.suite a ((a, oe) :: pn)) (.Attribute e fld pos) (dXf X.K a cls d c fld te) := by
  refine PE.of (pe_xf T.xf T.no hz hf he hb) fun σ H Q q => ?_
  have e : (fun (x : V) (H1 : Hp) => XAt X.K H1 a cls d c fld x fun v => Q v H1) = fun x H1 => x = .ref a ∧ cls = .ref (He.ga X.K c) ∧ ∃ (dd : Addr) (fs : List (Str × V)) (v : V), d = some dd ∧ H1 dd = some (.xd fs) ∧ fs.lookup fld = some v ∧ Q v H1 := by
    funext x H1
    refine propext ⟨fun ⟨dd, fs, v, h1, h2, h3, h4, h5, h6⟩ => ⟨h1, h2, dd, fs, v, h3, h4, h5, h6⟩, fun ⟨h1, h2, dd, fs, v, h3, h4, h5, h6⟩ => ⟨dd, fs, v, h1, h2, h3, h4, h5, h6⟩⟩
  show te σ H _
  rw [← e]
  exact q
/-! ### such a class in the head -/
def cellTo (K : Frag) (cc C : Addr) : Bool := match K.lookup cc with
  | some ⟨_, _, .cell (some (.ref D)), _⟩ => decide (D = C)
  | _ => false
theorem cellTo_ok {K : Frag} {cc C : Addr} (h : cellTo K cc C = true) : ∃ cl cld csl, K.lookup cc = some ⟨cl, cld, .cell (some (.ref C)), csl⟩ := by
  unfold cellTo at h
  split at h
  · rename_i cl cld D csl lc
    have e := of_decide_eq_true h
    subst e
    exact ⟨_, _, _, lc⟩
  · cases h
def codeFile (P : Program) (K : Frag) (cda : Addr) : Bool := match K.lookup cda with
  | some ⟨_, _, .fields vs, _⟩ => (match (vs[2]? : Option Value) with
    | some (.str file _) => ((P.main.file : Str) == file)
    | _ => false)
  | _ => false
theorem codeFile_ok {P : Program} {K : Frag} {cda : Addr} (h : codeFile P K cda = true) : ∃ ccl cdd vs ccs file tf, K.lookup cda = some ⟨ccl, cdd, .fields vs, ccs⟩ ∧ vs[2]? = some (.str file tf) ∧ ((P.main.file : Str) == file) = true := by
  unfold codeFile at h
  split at h
  · rename_i ccl cdd vs ccs lcd
    split at h
    · rename_i file tf hvs
      exact ⟨ccl, cdd, vs, ccs, file, tf, lcd, hvs, h⟩
    · cases h
  · cases h
def cloB (P : Program) (K : Frag) (C : Addr) (code : Value) (clo : List (Str × Addr)) : Bool := match code, clo with
  | .ref cda, [(_, cc)] => cellTo K cc C && codeFile P K cda
  | _, _ => false
theorem cloB_ok {P : Program} {K : Frag} {C : Addr} {code : Value} {clo : List (Str × Addr)} (h : cloB P K C code clo = true) : ∃ cda nm cc, code = .ref cda ∧ clo = [(nm, cc)] ∧ cellTo K cc C = true ∧ codeFile P K cda = true := by
  unfold cloB at h
  split at h
  · obtain ⟨h1, h2⟩ := He.ba h
    exact ⟨_, _, _, rfl, rfl, h1, h2⟩
  · cases h
def fnB (P : Program) (K : Frag) (C fI : Addr) : Bool := match K.lookup fI with
  | some ⟨_, _, .func fd, _⟩ => PySem.W.codeIn K fd.code fd.qualname && (He.dflB K fd.defaults [] && cloB P K C fd.code fd.closure)
  | _ => false
def xiB (P : Program) (c fld : Str) (K : Frag) : Bool := fnB P K (He.ga K c) (He.fAd K (c, some "__init__")) && (decide (PySem.W.mroIn K (He.ga K c) (.ref (He.ga K c)) = some true) && (He.eqO (PySem.W.ks_superIn K (He.ga K c) (He.ga K c) "__init__") (some (some (.builtin "ValueError.__init__"))) &&
    (decide (PySem.W.subIn K (.ref (He.ga K c)) (.type "ValueError") = some true) && (decide (PySem.W.nsIn K cStatics "thirdparty.any" = some none) && (oexB c K && (decide (PySem.W.findIn K (.ref (He.ga K c)) fld = some none) &&
    (He.eqO (PySem.W.findIn K (.ref (He.ga K c)) "__init__") (some (some (.ref (He.fAd K (c, some "__init__"))))) && (decide (PySem.W.typeIn K (.ref (He.fAd K (c, some "__init__"))) = some (.type "function")) && !(P.main.scope.names.lookup ("super" : Str)).isSome))))))))
theorem xi_of {P : Program} {K : Frag} {c fld nm qual : Str} {params : Arguments} {body : List Stmt} {scope : Scope} (e : fnX K (He.fAd K (c, some "__init__")) = some (nm, qual, params, .stmts body, scope, mainGlobals, [(("__class__" : Str), (0 : Addr))], builtinsNs)) (h : xiB P c fld K = true) :
    ∃ fd, XiF P K c fld nm qual params body scope (He.fAd K (c, some "__init__")) fd := by
  obtain ⟨h1, h⟩ := He.ba h
  obtain ⟨h2, h⟩ := He.ba h
  obtain ⟨h3, h⟩ := He.ba h
  obtain ⟨h4, h⟩ := He.ba h
  obtain ⟨h5, h⟩ := He.ba h
  obtain ⟨h6, h⟩ := He.ba h
  obtain ⟨h7, h⟩ := He.ba h
  obtain ⟨h8, h⟩ := He.ba h
  obtain ⟨h9, h10⟩ := He.ba h
  unfold fnX at e
  unfold fnB at h1
  cases lk : K.lookup (He.fAd K (c, some "__init__")) with
  | none => rw [lk] at e; cases e
  | some o =>
    rw [lk] at e h1
    obtain ⟨oc, od, dat, osl⟩ := o
    cases dat <;> try cases e
    rename_i fd
    obtain ⟨k1, k0⟩ := He.ba h1
    obtain ⟨kd, k2⟩ := He.ba k0
    obtain ⟨n1, n2, n3, n4, n5, n6, n7, n8, n9, n10, n11, n12, n13, n14, n15⟩ := fd
    simp only [Option.some.injEq, Prod.mk.injEq] at e
    obtain ⟨e1, e2, e3, e4, e5, e6, e7, e8⟩ := e
    subst e1 e2 e3 e4 e5 e6 e8
    dsimp only at k1 k2 kd
    have hdn : n8 = Value.none := by
      rcases He.dflB_ok kd with ⟨_, z⟩ | ⟨z, _⟩
      · exact z
      · exact absurd rfl z
    subst hdn
    obtain ⟨cda, nmc, cc, ec, eclo, h3', h4'⟩ := cloB_ok k2
    subst ec eclo
    have enm : nmc = "__class__" := by simpa using e7
    subst enm
    exact ⟨_, ⟨⟨oc, od, osl, _, _, _, _, cda, _, cc, rfl, lk, k1, cellTo_ok h3', codeFile_ok h4'⟩, of_decide_eq_true h2, He.eqO_ok h3, of_decide_eq_true h4, of_decide_eq_true h5, oexB_ok h6, of_decide_eq_true h7, He.eqO_ok h8, of_decide_eq_true h9, by simpa using h10⟩⟩
end S
namespace S
open PySem PySem.Spec PyProof.Rows L2
/-! ### x not in o, o with its own __contains__ -/
section
variable {X : Cx} {k : Nat} {g : Addr} {sp : Sp} {E : XK} {c : Str}
def oNinO (K : Frag) (c : Str) (sp : Sp) (E : XK) : R2 := fun x y H Q => match y with
  | .ref a => IsO K H c a (sp [.ref a, x] H (isB fun b H' => Q (.bl (!b)) H') E)
  | _ => False
theorem op_ninO (hm : Meth X.K (He.ga X.K c) "__contains__" g) (F : FnR X.prog X.w X.K X.mg X.base (L2.CX X.prog X.w) k g sp) (hr : Room k X.A) (hx : ∀ σ, PassesAt (L2.CX X.prog X.w) X σ E) : OpR X (compareOp .NotIn) (oNinO X.K c sp E) := by
  intro pins s σ H x y v u Q I rx ry q
  cases y <;> try exact q.elim
  cases ry
  obtain ⟨⟨dx, vs, hsl⟩, q⟩ := q
  obtain ⟨sl, od, _, J, _⟩ := SlX.slt_inst I hsl
  obtain ⟨m, hF⟩ := I.fr
  refine PySem.W.notIn_K hF I.ok.mod.kin J hm.at_ hm.fn ?_
  refine wpAny_mono (run_R (us := [.ref _, v]) (vs := [.ref _, x]) (E := fun _ => E) F hr (hx σ) I (.cons rfl (.cons rx .nil)) q) (fun w s' z => ?_) fun _ _ x => x
  obtain ⟨z', H', I', rz, qz⟩ := z
  obtain ⟨b, e, qz⟩ := isB_ex qz
  subst e
  cases rz
  exact wpAny_truthy_bool ⟨.bl (!b), H', I', rfl, qz⟩
end
/-! ### n.bit_length() -/
def dBits (to : TE) : TE := fun σ H Q => to σ H fun x H1 => match x with
  | .int i => Q (.int (Builtin.Int.intBits i : Nat)) H1
  | _ => False
theorem pe_bitsX {X : Cx} {o : Expr} {to : TE} {apos pos : Pos} (ho : PE X o to) (hbase : attributeBase o "bit_length" X.env (eval o X.env) = eval o X.env := by rfl) (hline : (apos.endLine == pos.line) = true := by rfl) : PE X (.Call (.Attribute o "bit_length" apos) [] [] pos) (dBits to) := by
  refine PE.of (pe_bits ho hbase hline) fun σ H Q q => ?_
  have e : (fun (x : V) (H1 : Hp) => (match x with
      | .int i => Q (.int (Builtin.Int.intBits i : Nat)) H1
      | _ => False : Prop)) = fun x H1 => ∃ i, x = .int i ∧ Q (.int (Builtin.Int.intBits i : Nat)) H1 := by
    funext x H1
    refine propext ⟨fun h => ?_, fun ⟨i, h1, h2⟩ => by subst h1; exact h2⟩
    cases x <;> try exact h.elim
    exact ⟨_, rfl, h⟩
  show to σ H _
  rw [← e]
  exact q
/-- the least width of a number -/
def widI (i : Int) : Nat := Builtin.Int.intBits (if i < 0 then -i - 1 else i) + 1
theorem bits_lt {i : Int} (h : 0 ≤ i) : i < 2 ^ Builtin.Int.intBits i := by
  unfold Builtin.Int.intBits
  by_cases h0 : i = 0
  · subst h0; decide
  · rw [if_neg (by simpa using h0)]
    have h1 : i.natAbs < 2 ^ (i.natAbs.log2 + 1) := Nat.lt_log2_self
    have h2 : ((2 : Int) ^ (i.natAbs.log2 + 1)) = ((2 ^ (i.natAbs.log2 + 1) : Nat) : Int) := by simp
    rw [h2]; omega
theorem bits_le {i : Int} (h : 0 ≤ i) (h1 : 0 < Builtin.Int.intBits i) : (2 ^ (Builtin.Int.intBits i - 1) : Int) ≤ i := by
  unfold Builtin.Int.intBits at h1 ⊢
  by_cases h0 : i = 0
  · subst h0; exact absurd h1 (by decide)
  · rw [if_neg (by simpa using h0)]
    have h3 : 2 ^ i.natAbs.log2 ≤ i.natAbs := Nat.log2_self_le (by omega)
    have h2 : ((2 : Int) ^ (i.natAbs.log2 + 1 - 1)) = ((2 ^ i.natAbs.log2 : Nat) : Int) := by simp
    rw [h2]; omega
theorem widI_pos (i : Int) : 1 ≤ widI i := by unfold widI; omega
theorem widI_fit (i : Int) : -(2 ^ (widI i - 1) : Int) ≤ i ∧ i < 2 ^ (widI i - 1) := by
  unfold widI
  rw [Nat.add_sub_cancel]
  by_cases h : i < 0
  · rw [if_pos h]
    have := bits_lt (i := -i - 1) (by omega)
    omega
  · rw [if_neg h]
    have := bits_lt (i := i) (by omega)
    omega
theorem widI_least {i : Int} (h : 1 < widI i) : i < -(2 ^ (widI i - 2) : Int) ∨ (2 ^ (widI i - 2) : Int) ≤ i := by
  unfold widI at h ⊢
  by_cases h0 : i < 0
  · rw [if_pos h0] at h ⊢
    have := bits_le (i := -i - 1) (by omega) (by omega)
    have e : Builtin.Int.intBits (-i - 1) + 1 - 2 = Builtin.Int.intBits (-i - 1) - 1 := by omega
    rw [e]; omega
  · rw [if_neg h0] at h ⊢
    have := bits_le (i := i) (by omega) (by omega)
    have e : Builtin.Int.intBits i + 1 - 2 = Builtin.Int.intBits i - 1 := by omega
    rw [e]; omega
end S
namespace S
open PySem PySem.Spec PyProof.Rows L2
/-! ### range(a, b, -1) -/
def iR3 (vs : List V) (H : Hp) (R : It → Hp → Prop) : Prop := match vs with
  | [.int i, .int j, .int c] => Need (c = -1) (Need (-(2 ^ 62) ≤ i ∧ i < 2 ^ 62 ∧ -(2 ^ 62) ≤ j ∧ j < 2 ^ 62) (R (Itc i (-1) (i - j).toNat) H))
  | _ => False
def iRngD (ta : TA) : TI := fun σ H R => ta σ H fun vs H1 => iR3 vs H1 R
theorem pi_rngD {X : Cx} {tg a b c : Expr} {ta : TA} {p pos : Pos} (hg : Gl X "range") (hm : X.mg "range" = none) (ha : PA X [a, b, c] ta)
    (hs : starEach [a, b, c] X.env = (false, eval a X.env) :: starEach [b, c] X.env := by rfl) (hpl : (backTo pos (starEach [b, c] X.env)).any (·.1) = false := by rfl) :
    PI X tg (.Call (.Name "range" p) [a, b, c] [] pos) (iRngD ta) := by
  refine ⟨fun pins s σ H R I h => ?_⟩
  refine Call_ (ld_blt I hg hm boot_range (PyProof.Rows.callWith_type1 (thn (ha.run pos pins s σ H _ I h) fun us s1 ⟨vs, H1, I1, r1, q1⟩ => ?_) hs hpl))
  match vs, q1 with
  | [.int i, .int j, .int k], ⟨e, ⟨q1, q2, q3, q4⟩, q⟩ =>
    subst e
    obtain ⟨c0, c1, c2, c3⟩ := RgC.neg q1 q2 q3 q4
    cases r1 with
    | cons r rr =>
      cases rr with
      | cons r' rr =>
        cases rr with
        | cons r'' rr =>
          cases rr
          obtain ⟨t, rfl⟩ := r
          obtain ⟨t', rfl⟩ := r'
          obtain ⟨t'', rfl⟩ := r''
          refine call_range_3 c0 ?_ (.inl (PyProof.noPylong_small c1))
          refine wpAny_pyIter_range (IsRange.new ..) c2 ?_
          have I2 : Inv X pins σ H1 { s1 with heap := s1.heap.push { cls := .type "range", data := .fields #[.int i t, .int j t', .int (-1) t''] } } := I1.kept (t' := s1.toks) fun b o e => Heap.get?_push_of_some _ e
          refine pi_one (tk := s1.toks) I2 _ (turn_rangeC _ i (-1) (i - j).toNat) ?_ q
          have e1 : i + ((0 : Nat) : Int) * (-1) = i := by simp
          have e2 : (((i - j).toNat : Nat) : Int) - ((0 : Nat) : Int) = Builtin.Range.rangeSize i j (-1) := by rw [c3]; simp
          show IsRangeIter _ _ (i + ((0 : Nat) : Int) * (-1)) ((((i - j).toNat : Nat) : Int) - ((0 : Nat) : Int)) (-1)
          rw [e1, e2]
          exact Heap.get?_push_size _ rfl
theorem for_rngD {a b : Int} {g : TG} {tb : TS} {D : Ends} {σ : L2.St} {H : Hp} (Pv : Nat → L2.St → Hp → Prop) (h0 : Pv 0 σ H)
    (hs : ∀ (i : Nat) σ H, b < a - (i : Int) → Pv i σ H → g (.int (a - i)) σ H fun σ2 H2 => tb { D with nx := Pv (i + 1), ct := Pv (i + 1), bk := D.nx } σ2 H2) (hd : ∀ σ H, Pv (a - b).toNat σ H → D.nx σ H) :
    LoopR D g tb σ (Itc a (-1) (a - b).toNat) H := by
  refine L2.for_rangeC (lo := a) Pv h0 (fun i σ H hi q => ?_) hd
  have z := hs i σ H (by omega) q
  have e : a + (i : Int) * (-1) = a - i := by omega
  rw [e]; exact z
/-! ### the head, its looks one by one -/
theorem run_split {σ β γ : Type} {o : Option σ} {f1 f2 f3 f4 : σ → Bool} {g : σ → β} {h : σ → γ} {v2 : β} {v3 : γ} (h1 : o.map f1 = some true) (h2 : o.map f2 = some true) (h3 : o.map f3 = some true) (h4 : o.map f4 = some true) (h5 : o.map g = some v2) (h6 : o.map h = some v3) :
    o.map (fun s => (f1 s && f2 s && f3 s && f4 s, g s, h s)) = some (true, v2, v3) := by
  cases o with
  | none => cases h1
  | some s =>
    have e1 : f1 s = true := Option.some.inj h1
    have e2 : f2 s = true := Option.some.inj h2
    have e3 : f3 s = true := Option.some.inj h3
    have e4 : f4 s = true := Option.some.inj h4
    have e5 : g s = v2 := Option.some.inj h5
    have e6 : h s = v3 := Option.some.inj h6
    show some (f1 s && f2 s && f3 s && f4 s, g s, h s) = _
    rw [e1, e2, e3, e4, e5, e6]; rfl
end S
namespace S
open PySem PySem.Spec PyProof.Rows L2
/-! ### i op x, x an instance with its own reflected op -/
theorem int_decl {nm : String} {f : Int → Int → Sem PySem.Fin} {i : Int} {t : Tok} {x : Addr} : GivesAt (fun s => ∃ ox : Obj, s.heap.get? x = some ox ∧ ∀ v, ox.data ≠ .prim v) (Builtin.Int.intBinary nm f false ⟨[.int i t, .ref x], []⟩) (.val Value.notImplemented) := by
  rintro prog w A R s ⟨ox, hx, hd⟩ h
  unfold Builtin.Int.intBinary
  have s1 : slotArgs nm 1 ⟨[.int i t, .ref x], []⟩ = pure (.int i t, [.ref x]) := by
    unfold slotArgs
    rfl
  rw [s1]
  refine wpAny_bind (wpAny_pure ?_)
  dsimp only
  have s2 : Builtin.Int.intOfSelf (.int i t) = pure i := by
    unfold Builtin.Int.intOfSelf asInt?
    rfl
  rw [s2]
  refine wpAny_bind (wpAny_pure ?_)
  dsimp only [List.headD_cons]
  unfold asInt?
  refine wpAny_bind (wpAny_bind (wpAny_load hx ?_))
  split
  · rename_i hq
    exact absurd hq (hd _)
  · refine wpAny_pure ?_
    exact wpAny_bind (wpAny_rule (wpAny_pure h))
section
variable {prog : Program} {w : World} {A : Around} {E : Value → Shared → Prop} {s : Shared} {K : Frag} {x C L f g : Addr} {h₀ : Heap} {m : Str → Option Value} {ox : Obj} {od : Option Obj}
theorem binR {op : Operator} {i : Int} {t : Tok} {idl : String} {B : Builtin} {Q : Value → Shared → Prop} (X : K.In s.heap) (I : PySem.W.InstAt s.heap x ox C od) (hd : ∀ v, ox.data ≠ .prim v) (hc : PySem.W.selfFirst K C = true)
    (hs : PySem.W.findIn K (.ref C) (PySem.dunder op.info.2) = some (some (.ref g))) (hr : PySem.W.findIn K (.ref C) (PySem.dunderR op.info.2) = some (some (.ref f))) (hf : PySem.W.isFn K (.ref f) = true)
    (hfi : fillsNumberSlot (.type "int") op.info.2 = pure true) (slot : Slot "int" (PySem.dunder op.info.2) idl) (entry : entryFor table idl = some B) (args : argsOk idl ⟨[.int i t, .ref x], []⟩)
    (gv : GivesAt (fun s => ∃ ox : Obj, s.heap.get? x = some ox ∧ ∀ v, ox.data ≠ .prim v) (B ⟨[.int i t, .ref x], []⟩) (.val Value.notImplemented)) (hsub : PySem.W.subIn K (.ref C) (.type "int") = some false)
    (h : wpAny (model prog w) A (call (.ref f) [.ref x, .int i t]) (PySem.W.CmpBack Q) E s) : wpAny (model prog w) A (binaryOp op (.int i t) (.ref x)) Q E s := by
  obtain ⟨cd, rest, hcd, hm⟩ := PySem.W.ksp_first hc
  rcases hi : op.info with ⟨sym, nm'⟩
  rw [hi] at hs hr hfi slot
  dsimp only at hs hr hfi slot
  have one := PySem.W.ksp_try X I hr hf h
  have L2 : PySem.W.Looks (model prog w) s.heap (typeOf (.ref x)) (.ref C) := I.type
  have L4 : PySem.W.Looks (model prog w) s.heap (fillsNumberSlot (.ref C) nm') true := PySem.W.fills_K X hcd hm hs
  have L5 : PySem.W.Looks (model prog w) s.heap (isSubtype (.ref C) (.type "int")) false := PySem.W.looks_subIn X hsub
  have hne : (Value.type "int" == Value.ref C) = false := Bool.eq_false_iff.mpr fun q => by cases beq_iff_eq.mp q
  have hpy : numberSlotInPython (.type "int") nm' = pure false := rfl
  simp only [binaryOp, hi]
  refine wpAny_holding (wpAny_bind ?_)
  unfold binaryOp1
  refine wpAny_bind (wpAny_of_eq (show typeOf (.int i t) = pure (.type "int") from rfl) (wpAny_bind (L2.here (wpAny_bind (wpAny_of_eq hfi ?_)))))
  simp only [hne, Bool.false_eq_true, if_false]
  refine wpAny_bind (L4.here ?_)
  simp only [Bool.and_self, if_true]
  refine wpAny_bind (L5.here ?_)
  simp only [Bool.false_eq_true, if_false, pure_bind, Bool.not_false, Bool.and_self, if_true, hpy]
  refine wpAny_bind (wpAny_tryMethod_declines (T := "int") rfl slot (call_givesAt slot rfl entry args gv ⟨ox, I.at_, hd⟩ ⟨rfl, ?_⟩))
  refine wpAny_bind (wpAny_mono one (fun r s' hr' => ?_) fun _ _ e => e)
  obtain ⟨v, rfl, hq⟩ := hr'
  exact wpAny_bind (wpAny_rule (wpAny_pure (wpAny_pure hq)))
end
theorem sub_int {K : Frag} {a : Addr} : PySem.W.subIn K (.type "int") (.ref a) = some false := by
  show (PySem.fastBuiltinMro "int").map (·.contains (.ref a)) = _
  obtain ⟨l, hl⟩ := Option.isSome_iff_exists.mp (show (PySem.fastBuiltinMro "int").isSome = true by decide)
  rw [hl]
  unfold PySem.fastBuiltinMro at hl
  obtain ⟨r, _, rfl⟩ := Option.map_eq_some_iff.mp hl
  rw [Option.map_some]
  congr 1
  rw [Bool.eq_false_iff]
  intro z
  rw [List.contains_iff_mem, List.mem_map] at z
  obtain ⟨_, _, e⟩ := z
  cases e
/-- what int has for an operator; that it declines an instance -/
structure IntOp (op : Operator) : Prop where
  ex : ∃ (fo ro : Option Value) (idl : String) (B : Builtin), (∀ K : Frag, PySem.W.findIn K (.type "int") (PySem.dunder op.info.2) = some fo) ∧ (∀ K : Frag, PySem.W.findIn K (.type "int") (PySem.dunderR op.info.2) = some ro) ∧
    fillsNumberSlot (.type "int") op.info.2 = pure true ∧ Slot "int" (PySem.dunder op.info.2) idl ∧ entryFor table idl = some B ∧ (∀ a b : Value, argsOk idl ⟨[a, b], []⟩) ∧
    ∀ (i : Int) (t : Tok) (x : Addr), GivesAt (fun s => ∃ ox : Obj, s.heap.get? x = some ox ∧ ∀ v, ox.data ≠ .prim v) (B ⟨[.int i t, .ref x], []⟩) (.val Value.notImplemented)
theorem int_add : IntOp .Add := ⟨some (.builtin "int.__add__"), some (.builtin "int.__radd__"), _, _, fun _ => by show PySem.fastLookup "int" "__add__" = _; kernel_rfl, fun _ => by show PySem.fastLookup "int" "__radd__" = _; kernel_rfl, PySem.F.fills_int_add, PySem.F.slot_int_add, PySem.F.entry_int_add, fun a b => PySem.F.args_int_add_2 a b, fun i t x => int_decl⟩
theorem int_sub : IntOp .Sub := ⟨some (.builtin "int.__sub__"), some (.builtin "int.__rsub__"), _, _, fun _ => by show PySem.fastLookup "int" "__sub__" = _; kernel_rfl, fun _ => by show PySem.fastLookup "int" "__rsub__" = _; kernel_rfl, PySem.F.fills_int_sub, PySem.F.slot_int_sub, PySem.F.entry_int_sub, fun a b => PySem.F.args_int_sub_2 a b, fun i t x => int_decl⟩
theorem int_mul : IntOp .Mult := ⟨some (.builtin "int.__mul__"), some (.builtin "int.__rmul__"), _, _, fun _ => by show PySem.fastLookup "int" "__mul__" = _; kernel_rfl, fun _ => by show PySem.fastLookup "int" "__rmul__" = _; kernel_rfl, PySem.F.fills_int_mul, PySem.F.slot_int_mul, PySem.F.entry_int_mul, fun a b => PySem.F.args_int_mul_2 a b, fun i t x => int_decl⟩
section
variable {X : Cx} {k kR : Nat} {g gR : Addr} {sp spR : Sp} {E : XK} {c : Str} {ups : List Str} {tys : List String}
/-- x op y: an instance of c ahead (an instance or an int behind), or an int ahead of an instance (its reflected op); r: of other values -/
def oOwnI (K : Frag) (c : Str) (sp spR : Sp) (E : XK) (r : R2) : R2 := fun x y H Q => match x, y with
  | .ref a, .ref b => IsO K H c a (IsO K H c b (sp [.ref a, .ref b] H Q E))
  | .ref a, .int i => IsO K H c a (sp [.ref a, .int i] H Q E)
  | .int i, .ref b => IsO K H c b (spR [.ref b, .int i] H Q E)
  | x, y => r x y H Q
theorem op_ownI {op : Operator} {r : R2} (iop : IntOp op) (mf : MF X.K c ups tys) (hty : "int" ∉ tys) (hm : Meth X.K (He.ga X.K c) (PySem.dunder op.info.2) g) (hmR : Meth X.K (He.ga X.K c) (PySem.dunderR op.info.2) gR)
    (F : FnR X.prog X.w X.K X.mg X.base (L2.CX X.prog X.w) k g sp) (FR' : FnR X.prog X.w X.K X.mg X.base (L2.CX X.prog X.w) kR gR spR) (hr : Room k X.A) (hrR : Room kR X.A) (hx : ∀ σ, PassesAt (L2.CX X.prog X.w) X σ E) (h0 : OpR X (binaryOp op) r) : OpR X (binaryOp op) (oOwnI X.K c sp spR E r) := by
  obtain ⟨fo, ro, idl, B, f1, f2, fi, slot, entry, args, gv⟩ := iop.ex
  have hsub : PySem.W.subIn X.K (.ref (He.ga X.K c)) (.type "int") = some false := by
    rw [mf_sub mf]
    congr 1
    rw [decide_eq_false_iff_not]
    intro z
    rcases List.mem_append.mp z with z | z
    · obtain ⟨_, _, e⟩ := List.mem_map.mp z
      cases e
    · obtain ⟨y, hy, e⟩ := List.mem_map.mp z
      cases e
      exact hty hy
  intro pins s σ H x y v u Q I rx ry q
  have own : ∀ a b, x = .ref a → y = .ref b → IsO X.K H c a (IsO X.K H c b (sp [.ref a, .ref b] H Q E)) → wpAny (model X.prog X.w) X.A (binaryOp op v u) (EP X pins σ Q) X.xe s := by
    intro a b ex ey q
    subst ex ey
    cases rx
    cases ry
    obtain ⟨⟨dx, vs, hsl⟩, ⟨⟨dy, ws, hsl2⟩, q⟩⟩ := q
    obtain ⟨sl, od, _, J, _⟩ := SlX.slt_inst I hsl
    obtain ⟨sl', od', _, J', _⟩ := SlX.slt_inst I hsl2
    obtain ⟨m, hF⟩ := I.fr
    refine PySem.W.binop_K hF I.ok.mod.kin J J'.type (mf_first mf) hm.at_ hm.fn ?_
    refine wpAny_mono (run_op (us := [.ref a, .ref b]) (vs := [.ref a, .ref b]) F hr I.env0 hx I (.cons rfl (.cons rfl .nil)) q) (fun w s' z => ?_) fun _ _ x => x
    obtain ⟨z', H', I', rz, qz⟩ := z
    exact SlX.cmpback rz ⟨z', H', I', rz, qz⟩
  have left : ∀ a i, x = .ref a → y = .int i → IsO X.K H c a (sp [.ref a, .int i] H Q E) → wpAny (model X.prog X.w) X.A (binaryOp op v u) (EP X pins σ Q) X.xe s := by
    intro a i ex ey q
    subst ex ey
    cases rx
    obtain ⟨t, rfl⟩ := ry
    obtain ⟨⟨dx, vs, hsl⟩, q⟩ := q
    obtain ⟨sl, od, _, J, _⟩ := SlX.slt_inst I hsl
    obtain ⟨m, hF⟩ := I.fr
    refine PySem.W.ksp_binT (T := "int") hF I.ok.mod.kin J rfl (mf_first mf) hm.at_ hm.fn hmR.at_ (.inr ⟨_, rfl⟩) (f1 _) (f2 _) sub_int ?_
    refine wpAny_mono (run_op (us := [.ref a, .int i t]) (vs := [.ref a, .int i]) F hr I.env0 hx I (.cons rfl (.cons ⟨t, rfl⟩ .nil)) q) (fun w s' z => ?_) fun _ _ x => x
    obtain ⟨z', H', I', rz, qz⟩ := z
    exact SlX.cmpback rz ⟨z', H', I', rz, qz⟩
  have right : ∀ i b, x = .int i → y = .ref b → IsO X.K H c b (spR [.ref b, .int i] H Q E) → wpAny (model X.prog X.w) X.A (binaryOp op v u) (EP X pins σ Q) X.xe s := by
    intro i b ex ey q
    subst ex ey
    obtain ⟨t, rfl⟩ := rx
    cases ry
    obtain ⟨⟨dx, vs, hsl⟩, q⟩ := q
    obtain ⟨sl, od, _, J, _⟩ := SlX.slt_inst I hsl
    obtain ⟨m, hF⟩ := I.fr
    refine binR (I.ok.mod.kin.keeps hF.keep) J (fun v z => by cases z) (mf_first mf) hm.at_ hmR.at_ hmR.fn fi slot entry (args _ _) (gv _ _ _) hsub ?_
    refine wpAny_mono (run_op (us := [.ref b, .int i t]) (vs := [.ref b, .int i]) FR' hrR I.env0 hx I (.cons rfl (.cons ⟨t, rfl⟩ .nil)) q) (fun w s' z => ?_) fun _ _ x => x
    obtain ⟨z', H', I', rz, qz⟩ := z
    exact SlX.cmpback rz ⟨z', H', I', rz, qz⟩
  cases x <;> cases y <;> first | exact own _ _ rfl rfl q | exact left _ _ rfl rfl q | exact right _ _ rfl rfl q | exact h0 pins s σ H _ _ v u Q I rx ry q
/-- the same with an instance ahead alone -/
def oOwnL (K : Frag) (c : Str) (sp : Sp) (E : XK) (r : R2) : R2 := fun x y H Q => match x, y with
  | .ref a, .ref b => IsO K H c a (IsO K H c b (sp [.ref a, .ref b] H Q E))
  | .ref a, .int i => IsO K H c a (sp [.ref a, .int i] H Q E)
  | x, y => r x y H Q
theorem op_ownL {op : Operator} {r : R2} (iop : IntOp op) (mf : MF X.K c ups tys) (hm : Meth X.K (He.ga X.K c) (PySem.dunder op.info.2) g) (hmR : Meth X.K (He.ga X.K c) (PySem.dunderR op.info.2) gR)
    (F : FnR X.prog X.w X.K X.mg X.base (L2.CX X.prog X.w) k g sp) (hr : Room k X.A) (hx : ∀ σ, PassesAt (L2.CX X.prog X.w) X σ E) (h0 : OpR X (binaryOp op) r) : OpR X (binaryOp op) (oOwnL X.K c sp E r) := by
  obtain ⟨fo, ro, idl, B, f1, f2, fi, slot, entry, args, gv⟩ := iop.ex
  intro pins s σ H x y v u Q I rx ry q
  have own : ∀ a b, x = .ref a → y = .ref b → IsO X.K H c a (IsO X.K H c b (sp [.ref a, .ref b] H Q E)) → wpAny (model X.prog X.w) X.A (binaryOp op v u) (EP X pins σ Q) X.xe s := by
    intro a b ex ey q
    subst ex ey
    cases rx
    cases ry
    obtain ⟨⟨dx, vs, hsl⟩, ⟨⟨dy, ws, hsl2⟩, q⟩⟩ := q
    obtain ⟨sl, od, _, J, _⟩ := SlX.slt_inst I hsl
    obtain ⟨sl', od', _, J', _⟩ := SlX.slt_inst I hsl2
    obtain ⟨m, hF⟩ := I.fr
    refine PySem.W.binop_K hF I.ok.mod.kin J J'.type (mf_first mf) hm.at_ hm.fn ?_
    refine wpAny_mono (run_op (us := [.ref a, .ref b]) (vs := [.ref a, .ref b]) F hr I.env0 hx I (.cons rfl (.cons rfl .nil)) q) (fun w s' z => ?_) fun _ _ x => x
    obtain ⟨z', H', I', rz, qz⟩ := z
    exact SlX.cmpback rz ⟨z', H', I', rz, qz⟩
  have left : ∀ a i, x = .ref a → y = .int i → IsO X.K H c a (sp [.ref a, .int i] H Q E) → wpAny (model X.prog X.w) X.A (binaryOp op v u) (EP X pins σ Q) X.xe s := by
    intro a i ex ey q
    subst ex ey
    cases rx
    obtain ⟨t, rfl⟩ := ry
    obtain ⟨⟨dx, vs, hsl⟩, q⟩ := q
    obtain ⟨sl, od, _, J, _⟩ := SlX.slt_inst I hsl
    obtain ⟨m, hF⟩ := I.fr
    refine PySem.W.ksp_binT (T := "int") hF I.ok.mod.kin J rfl (mf_first mf) hm.at_ hm.fn hmR.at_ (.inr ⟨_, rfl⟩) (f1 _) (f2 _) sub_int ?_
    refine wpAny_mono (run_op (us := [.ref a, .int i t]) (vs := [.ref a, .int i]) F hr I.env0 hx I (.cons rfl (.cons ⟨t, rfl⟩ .nil)) q) (fun w s' z => ?_) fun _ _ x => x
    obtain ⟨z', H', I', rz, qz⟩ := z
    exact SlX.cmpback rz ⟨z', H', I', rz, qz⟩
  cases x <;> cases y <;> first | exact own _ _ rfl rfl q | exact left _ _ rfl rfl q | exact h0 pins s σ H _ _ v u Q I rx ry q
end
end S
namespace S
open PySem PySem.Spec PyProof.Rows L2
/-! ### abs of an instance with its own __abs__ -/
section
variable {X : Cx} {k : Nat} {g : Addr} {sp : Sp} {E : XK} {c : Str} {ups : List Str} {tys : List String}
def cAbsO (K : Frag) (c : Str) (sp : Sp) (E : XK) : List V → Hp → VK → Prop := fun xs H Q => match xs with
  | [.int i] => Q (.int (i.natAbs : Int)) H
  | [.ref p] => IsO K H c p (sp [.ref p] H Q E)
  | _ => False
theorem c_absO (hm : Meth X.K (He.ga X.K c) "__abs__" g) (F : FnR X.prog X.w X.K X.mg X.base (L2.CX X.prog X.w) k g sp) (hr : Room (k + 1) X.A) (hx : ∀ σ, PassesAt (L2.CX X.prog X.w) X σ E) : CallR X (.builtin "abs") (cAbsO X.K c sp E) := by
  intro pins s σ H xs us Q I r h
  match xs, h with
  | [.int i], h => exact (c_abs (X := X)) pins s σ H _ us Q I r h
  | [.ref p], ⟨⟨dx, vs, hsl⟩, q⟩ =>
    obtain ⟨u, rfl, rfl⟩ := r.one
    obtain ⟨sl, od, _, J, _⟩ := SlX.slt_inst I hsl
    obtain ⟨m, hF⟩ := I.fr
    have hr2 : Room k X.A.in1 := Room.in1 hr
    refine Calls.call_function_entry kind_abs plain_abs entry_abs (args_abs _) ?_
    unfold Builtin.«abs»
    refine wpAny_bind (m := oneArg "abs" _) (wpAny_pure ?_)
    refine wpAny_bind (PySem.W.special_fn I.kIn J hm.at_ (beq_iff_eq.mp hm.fn) ?_)
    refine wpAny_mono (run_op (us := [.ref p]) (vs := [.ref p]) F hr2 I.env0.in1 hx I (.cons rfl .nil) q) (fun w s' z => ?_) fun _ _ x => x
    exact wpAny_pure ⟨_, rfl, z⟩
end
/-! ### x op i, x an instance whose class has no reflected op -/
structure IntOpN (op : Operator) : Prop where
  ex : ∃ (fo ro : Option Value), (∀ K : Frag, PySem.W.findIn K (.type "int") (PySem.dunder op.info.2) = some fo) ∧ (∀ K : Frag, PySem.W.findIn K (.type "int") (PySem.dunderR op.info.2) = some ro)
theorem intN_shl : IntOpN .LShift := ⟨some (.builtin "int.__lshift__"), some (.builtin "int.__rlshift__"), fun _ => by show PySem.fastLookup "int" "__lshift__" = _; kernel_rfl, fun _ => by show PySem.fastLookup "int" "__rlshift__" = _; kernel_rfl⟩
theorem intN_shr : IntOpN .RShift := ⟨some (.builtin "int.__rshift__"), some (.builtin "int.__rrshift__"), fun _ => by show PySem.fastLookup "int" "__rshift__" = _; kernel_rfl, fun _ => by show PySem.fastLookup "int" "__rrshift__" = _; kernel_rfl⟩
def NoM (K : Frag) (c m : Str) : Prop := PySem.W.findIn K (.ref (He.ga K c)) m = some none
def noMB (c m : Str) (K : Frag) : Bool := He.eqO (PySem.W.findIn K (.ref (He.ga K c)) m) (some none)
theorem noMB_ok {K : Frag} {c m : Str} (h : noMB c m K = true) : NoM K c m := He.eqO_ok h
section
variable {X : Cx} {k : Nat} {g : Addr} {sp : Sp} {E : XK} {c : Str} {ups : List Str} {tys : List String}
def oOwnN (K : Frag) (c : Str) (sp : Sp) (E : XK) (r : R2) : R2 := fun x y H Q => match x, y with
  | .ref a, .int i => IsO K H c a (sp [.ref a, .int i] H Q E)
  | x, y => r x y H Q
theorem op_ownN {op : Operator} {r : R2} (iop : IntOpN op) (mf : MF X.K c ups tys) (hm : Meth X.K (He.ga X.K c) (PySem.dunder op.info.2) g) (hn : NoM X.K c (PySem.dunderR op.info.2))
    (F : FnR X.prog X.w X.K X.mg X.base (L2.CX X.prog X.w) k g sp) (hr : Room k X.A) (hx : ∀ σ, PassesAt (L2.CX X.prog X.w) X σ E) (h0 : OpR X (binaryOp op) r) : OpR X (binaryOp op) (oOwnN X.K c sp E r) := by
  obtain ⟨fo, ro, f1, f2⟩ := iop.ex
  intro pins s σ H x y v u Q I rx ry q
  have left : ∀ a i, x = .ref a → y = .int i → IsO X.K H c a (sp [.ref a, .int i] H Q E) → wpAny (model X.prog X.w) X.A (binaryOp op v u) (EP X pins σ Q) X.xe s := by
    intro a i ex ey q
    subst ex ey
    cases rx
    obtain ⟨t, rfl⟩ := ry
    obtain ⟨⟨dx, vs, hsl⟩, q⟩ := q
    obtain ⟨sl, od, _, J, _⟩ := SlX.slt_inst I hsl
    obtain ⟨m, hF⟩ := I.fr
    refine PySem.W.ksp_binT (T := "int") hF I.ok.mod.kin J rfl (mf_first mf) hm.at_ hm.fn hn (.inl rfl) (f1 _) (f2 _) sub_int ?_
    refine wpAny_mono (run_op (us := [.ref a, .int i t]) (vs := [.ref a, .int i]) F hr I.env0 hx I (.cons rfl (.cons ⟨t, rfl⟩ .nil)) q) (fun w s' z => ?_) fun _ _ x => x
    obtain ⟨z', H', I', rz, qz⟩ := z
    exact SlX.cmpback rz ⟨z', H', I', rz, qz⟩
  cases x <;> cases y <;> first | exact left _ _ rfl rfl q | exact h0 pins s σ H _ _ v u Q I rx ry q
end
/-! ### == of two tuples of instances with their own == -/
section
variable {prog : Program} {w : World} {A : Around} {R : Result → Shared → Prop}
theorem tuple_eqB (l b : Addr) (items items2 : Array Value) (n n2 : Nat) (dd dd2 : Option Addr) (sl sl2 : Array (Option Value)) (bs : Nat → Bool) (I : Nat → Shared → Prop)
    (turn : ∀ i (h1 : i < items.size) (h2 : i < items2.size) s, I i s → wpAny (model prog w) A.in1 (eqBool items[i] items2[i]) (fun r s' => r = bs i ∧ I (i + 1) s') (fun e s' => R (.error e) s') s)
    (fin : ∀ i s (r : Bool), I i s → (r = true ↔ items.size = items2.size ∧ ∀ j, j < items.size → bs j = true) → R (.ok (.ret (.bool r))) s) {s : Shared}
    (hl1 : s.heap.get? l = some { cls := .type "tuple", dict := dd, data := .seq items n, slots := sl }) (hb1 : s.heap.get? b = some { cls := .type "tuple", dict := dd2, data := .seq items2 n2, slots := sl2 }) (h : I 0 s) :
    wpAny (model prog w) A.in1 (Builtin.«tuple.__eq__» ⟨[.ref l, .ref b], []⟩) (GQ.FinOf prog w A R) (fun e s' => R (.error e) s') s := by
  have f2 := AutoSeq1.sub_tuple_tuple
  have hZ : (items.toList.zip items2.toList).length = min items.size items2.size := by simp
  have h0 := h
  obtain ⟨hp, g, d, tk, os⟩ := s
  wp_walk using AutoSeq1.wpAny_loadPart' hl1, AutoSeq1.wpAny_loadPart' hb1, wpAny_forIn_list _ (fun rest b s' => b.1 = none ∧ ∃ i, rest = (items.toList.zip items2.toList).drop i ∧ i ≤ min items.size items2.size ∧ (∀ j, j < i → bs j = true) ∧ I i s') _
  case turn =>
    rintro ⟨y, x⟩ rest b s' ⟨hb', i, hz, hi, hj, hI⟩
    have hlt : i < (items.toList.zip items2.toList).length := by
      rcases Nat.lt_or_ge i (items.toList.zip items2.toList).length with h' | h'
      · exact h'
      · rw [List.drop_of_length_le h'] at hz; cases hz
    have h1 : i < items.size := by omega
    have h2 : i < items2.size := by omega
    rw [List.drop_eq_getElem_cons hlt] at hz
    injection hz with hyx hrest
    have hy : y = items[i] := by have := congrArg Prod.fst hyx; simpa using this
    have hx : x = items2[i] := by have := congrArg Prod.snd hyx; simpa using this
    subst hy hx
    refine wpAny_bind (wpAny_mono (turn i h1 h2 s' hI) (fun r s2 q2 => ?_) fun _ _ x => x)
    obtain ⟨hr, q2⟩ := q2
    subst hr
    cases hbi : bs i with
    | true =>
      wp_walk
      refine ⟨rfl, i + 1, hrest, by omega, fun j hj' => ?_, q2⟩
      by_cases e : j = i
      · rw [e]; exact hbi
      · exact hj j (by omega)
    | false =>
      have hR : R (.ok (.ret (.bool false))) s2 := fin _ s2 false q2 ⟨(fun z => nomatch z), fun z => by rw [z.2 i h1] at hbi; cases hbi⟩
      wp_walk
      exact hR
  case fin =>
    rintro ⟨b1, b2⟩ s' ⟨hb', i, hz, hi, hj, hI⟩
    simp only at hb'
    subst hb'
    have hge : min items.size items2.size ≤ i := by
      rcases Nat.lt_or_ge i (items.toList.zip items2.toList).length with h' | h'
      · rw [List.drop_eq_getElem_cons h'] at hz; cases hz
      · exact hZ ▸ h'
    have hR : R (.ok (.ret (.bool (items.size == items2.size)))) s' := fin _ s' _ hI (by
      rw [beq_iff_eq]
      exact ⟨fun e => ⟨e, fun j hj' => hj j (by omega)⟩, fun e => e.1⟩)
    wp_walk
    exact hR
  case h =>
    exact ⟨rfl, 0, rfl, Nat.zero_le _, (fun j hj => absurd hj (Nat.not_lt_zero _)), h0⟩
theorem rc_tupB {E : Value → Shared → Prop} {s : Shared} {l b : Addr} {items items2 : Array Value} {Q : Value → Shared → Prop} (hu : A.units < cLine) (bs : Nat → Bool) (I : Nat → Shared → Prop)
    (hl : s.heap.IsTuple l items) (hb : s.heap.IsTuple b items2)
    (turn : ∀ i (h1 : i < items.size) (h2 : i < items2.size) s, I i s → wpAny (model prog w) A.in1 (eqBool items[i] items2[i]) (fun r s' => r = bs i ∧ I (i + 1) s') E s)
    (fin : ∀ i s (r : Bool), I i s → (r = true ↔ items.size = items2.size ∧ ∀ j, j < items.size → bs j = true) → Q (.bool r) s) (h : I 0 s) : wpAny (model prog w) A (richCompare .Eq (.ref l) (.ref b)) Q E s := by
  obtain ⟨⟨cls, dd, data, sl⟩, ho, hc, n, hd⟩ := id hl
  obtain ⟨⟨cls2, dd2, data2, sl2⟩, ho2, hc2, n2, hd2⟩ := id hb
  simp only at hc hd hc2 hd2
  subst hc hd hc2 hd2
  refine wpAny_richCompare_same_room (op := .Eq) ⟨_, ho, rfl⟩ ⟨_, ho2, rfl⟩ F.slot_tuple_eq (GQ.call_here F.slot_tuple_eq ⟨_, ho, rfl⟩ F.entry_tuple_eq (F.args_tuple_eq_2 _ _) ?_) hu
  exact tuple_eqB (R := wants (fun v s' => v ≠ .notImplemented ∧ Q v s') E) l b items items2 n n2 dd dd2 sl sl2 bs I turn (fun i s' r q e => ⟨(fun x => nomatch x), fin i s' r q e⟩) ho ho2 h
end
/-- two tuples of instances of c: their own == answers by bs -/
structure EqT (K : Frag) (c : Str) (sp : Sp) (E : XK) (H : Hp) (a b : Addr) (k : Bool → Hp → Prop) : Prop where
  ex : ∃ (xs ys : List V) (bs : Nat → Bool) (r : Bool), SqT K H a xs ∧ SqT K H b ys ∧
    (∀ (i : Nat) x y, xs[i]? = some x → ys[i]? = some y → ∃ p q, x = .ref p ∧ y = .ref q ∧ (p = q → bs i = true) ∧ ∀ H', Same H H' → IsO K H' c p (IsO K H' c q (sp [.ref p, .ref q] H' (fun v H2 => v = .bl (bs i) ∧ Same H' H2) E))) ∧
    (r = true ↔ xs.length = ys.length ∧ ∀ j, j < xs.length → bs j = true) ∧ ∀ H', Same H H' → k r H'
section
variable {X : Cx} {k : Nat} {g : Addr} {sp : Sp} {E : XK} {c : Str}
theorem eqT_run (hm : Meth X.K (He.ga X.K c) "__eq__" g) (F : FnR X.prog X.w X.K X.mg X.base (L2.CX X.prog X.w) k g sp) (hr : Room (k + 1) X.A) (hx : ∀ σ, PassesAt (L2.CX X.prog X.w) X σ E) {pins : List (Addr × Obj)} {s : Shared} {σ : L2.St} {H : Hp} {a b : Addr} {Q : VK} (I : Inv X pins σ H s)
    (q : EqT X.K c sp E H a b fun r H' => Q (.bl r) H') : wpAny (model X.prog X.w) X.A (richCompare .Eq (.ref a) (.ref b)) (EP X pins σ Q) X.xe s := by
  obtain ⟨⟨xs, ys, bs, r, ha, hb, hi, hr2, q⟩⟩ := q
  obtain ⟨its, rv, e, z⟩ := I.tuple ha
  obtain ⟨its2, rv2, e2, z2⟩ := I.tuple hb
  have l1 := rv.length
  have l2 := rv2.length
  refine rc_tupB hr.units0 bs (fun _ s' => ∃ H', Inv X pins σ H' s' ∧ Same H H') e e2 ?_ ?_ ⟨H, I, Same.refl _⟩
  · rintro i h1 h2 s' ⟨H', I', e'⟩
    have h1' : i < its.length := by simpa using h1
    have h2' : i < its2.length := by simpa using h2
    have g1 : its[i]? = some its.toArray[i] := by rw [List.getElem?_eq_getElem h1'] <;> simp
    have g2 : its2[i]? = some its2.toArray[i] := by rw [List.getElem?_eq_getElem h2'] <;> simp
    have k1 : i < xs.length := by omega
    have k2 : i < ys.length := by omega
    obtain ⟨u, hu, ru⟩ := rv.get (List.getElem?_eq_getElem k1)
    obtain ⟨v, hv, rvv⟩ := rv2.get (List.getElem?_eq_getElem k2)
    rw [g1] at hu
    rw [g2] at hv
    rw [Option.some.inj hu, Option.some.inj hv]
    obtain ⟨p, p2, ex, ey, hsame, hown⟩ := hi i _ _ (List.getElem?_eq_getElem k1) (List.getElem?_eq_getElem k2)
    rw [ex] at ru
    rw [ey] at rvv
    cases ru
    cases rvv
    by_cases hpp : p = p2
    · subst hpp
      rw [hsame rfl]
      exact SeqAt.EqAt.same (A := X.A.in1) (s := s') (.ref p) X.prog X.w X.xe _ ⟨rfl, H', I', e'⟩
    · obtain ⟨⟨dx, vs, hsl⟩, ⟨⟨dy, ws, hsl2⟩, q1⟩⟩ := hown H' e'
      obtain ⟨sl, od, _, J, _⟩ := SlX.slt_inst I' hsl
      obtain ⟨sl', od', _, J', _⟩ := SlX.slt_inst I' hsl2
      obtain ⟨m, hF⟩ := I'.fr
      have hr1 : Room k X.A.in1 := Room.in1 hr
      refine GQ.eqBool_refG hpp ?_
      refine PySem.W.cmp_K (op := .Eq) (tb := .ref (He.ga X.K c)) hr1.units0 hF I'.ok.mod.kin J J'.type (by unfold PySem.W.notFirst; simp) hm.at_ hm.fn ?_
      refine wpAny_mono (run_op (us := [.ref p, .ref p2]) (vs := [.ref p, .ref p2]) F hr1 I'.env0.in1 hx I' (.cons rfl (.cons rfl .nil)) q1) (fun w s2 z => ?_) fun _ _ x => x
      obtain ⟨z', H2, I2, rz, ez, e3⟩ := z
      subst ez
      cases rz
      exact ⟨_, rfl, rfl, H2, I2, e'.trans e3⟩
  · rintro i s' b' ⟨H', I', e'⟩ hb'
    have eb : b' = r := by
      rw [Bool.eq_iff_iff, hb', hr2]
      simp only [List.size_toArray]
      rw [← l1, ← l2]
    subst eb
    exact ⟨.bl b', H', I', rfl, q H' e'⟩
/-- x == y: of tuples of instances of c; of instances by their own def; of data -/
structure EqOT (K : Frag) (c : Str) (sp : Sp) (E : XK) (H : Hp) (a b : Addr) (Q : VK) : Prop where
  ex : EqOr K c H a b (sp [.ref a, .ref b] H Q E) (fun k => Q (.bl k) H) ∨ EqT K c sp E H a b fun r H' => Q (.bl r) H'
def oEqT (K : Frag) (c : Str) (sp : Sp) (E : XK) : R2 := fun x y H Q => match x, y with
  | .ref a, .ref b => EqOT K c sp E H a b Q
  | x, y => oEq K x y H Q
theorem op_eqT (hm : Meth X.K (He.ga X.K c) "__eq__" g) (F : FnR X.prog X.w X.K X.mg X.base (L2.CX X.prog X.w) k g sp) (hr : Room (k + 1) X.A) (hx : ∀ σ, PassesAt (L2.CX X.prog X.w) X σ E) : OpR X (compareOp .Eq) (oEqT X.K c sp E) := by
  have h1 : OpR X (compareOp .Eq) (oEqO X.K c sp E) := op_eqO hm F (hr.mono (Nat.le_succ _)) hx
  have h0 : OpR X (compareOp .Eq) (oEq X.K) := o_eq hr.units
  intro pins s σ H x y v u Q I rx ry q
  have two : ∀ a b, x = .ref a → y = .ref b → EqOT X.K c sp E H a b Q → wpAny (model X.prog X.w) X.A (compareOp .Eq v u) (EP X pins σ Q) X.xe s := by
    intro a b ex ey q1
    clear q
    subst ex ey
    rcases q1.ex with q | q
    · exact h1 pins s σ H _ _ v u Q I rx ry q
    · cases rx
      cases ry
      exact eqT_run hm F hr hx I q
  cases x <;> cases y <;> first
    | exact two _ _ rfl rfl q
    | exact h0 pins s σ H _ _ v u Q I rx ry q
end
end S
namespace S
open PySem PySem.Spec PyProof.Rows L2
/-! ### x op y: two instances of c by their own def; two others by r -/
structure OwnOr (K : Frag) (H : Hp) (c : Str) (a b : Addr) (P R : Prop) : Prop where
  ex : IsO K H c a (IsO K H c b P) ∨ R
theorem OwnOr.own {K : Frag} {H : Hp} {c : Str} {a b : Addr} {P R : Prop} (h : IsO K H c a (IsO K H c b P)) : OwnOr K H c a b P R := ⟨.inl h⟩
theorem OwnOr.dat {K : Frag} {H : Hp} {c : Str} {a b : Addr} {P R : Prop} (h : R) : OwnOr K H c a b P R := ⟨.inr h⟩
section
variable {X : Cx} {k kR : Nat} {g gR : Addr} {sp spR : Sp} {E : XK} {c : Str} {ups : List Str} {tys : List String}
def oOwnJ (K : Frag) (c : Str) (sp spR : Sp) (E : XK) (r : R2) : R2 := fun x y H Q => match x, y with
  | .ref a, .ref b => OwnOr K H c a b (sp [.ref a, .ref b] H Q E) (r (.ref a) (.ref b) H Q)
  | .ref a, .int i => IsO K H c a (sp [.ref a, .int i] H Q E)
  | .int i, .ref b => IsO K H c b (spR [.ref b, .int i] H Q E)
  | x, y => r x y H Q
theorem op_ownJ {op : Operator} {r : R2} (iop : IntOp op) (mf : MF X.K c ups tys) (hty : "int" ∉ tys) (hm : Meth X.K (He.ga X.K c) (PySem.dunder op.info.2) g) (hmR : Meth X.K (He.ga X.K c) (PySem.dunderR op.info.2) gR)
    (F : FnR X.prog X.w X.K X.mg X.base (L2.CX X.prog X.w) k g sp) (FR' : FnR X.prog X.w X.K X.mg X.base (L2.CX X.prog X.w) kR gR spR) (hr : Room k X.A) (hrR : Room kR X.A) (hx : ∀ σ, PassesAt (L2.CX X.prog X.w) X σ E) (h0 : OpR X (binaryOp op) r) : OpR X (binaryOp op) (oOwnJ X.K c sp spR E r) := by
  have h1 : OpR X (binaryOp op) (oOwnI X.K c sp spR E r) := op_ownI iop mf hty hm hmR F FR' hr hrR hx h0
  intro pins s σ H x y v u Q I rx ry q
  have two : ∀ a b, x = .ref a → y = .ref b → OwnOr X.K H c a b (sp [.ref a, .ref b] H Q E) (r (.ref a) (.ref b) H Q) → wpAny (model X.prog X.w) X.A (binaryOp op v u) (EP X pins σ Q) X.xe s := by
    intro a b ex ey q1
    clear q
    subst ex ey
    rcases q1.ex with q | q
    · exact h1 pins s σ H _ _ v u Q I rx ry q
    · exact h0 pins s σ H _ _ v u Q I rx ry q
  cases x <;> cases y <;> first | exact two _ _ rfl rfl q | exact h1 pins s σ H _ _ v u Q I rx ry q
end
end S
namespace S
open PySem PySem.Spec PyProof.Rows L2
/-! ### the head's look, over what the named ones reach -/
def nsG (g : Addr → Option Obj) (ns : Addr) (x : Str) : List Addr := match g ns with
  | some ⟨_, _, .dict es _, _⟩ => (match es.toList.find? (·.key.isStr x) with
    | some e => He.refV e.val
    | none => [])
  | _ => []
def rfY (o : Obj) : List Addr := match o.data with
  | .cls cd => [cd.ns]
  | .func fd => He.refV fd.code ++ (He.refV fd.defaults ++ (He.refV fd.kwdefaults ++ fd.closure.map (·.2)))
  | .dict es _ => es.toList.flatMap fun e => He.refV e.val
  | .seq its _ => its.toList.flatMap He.refV
  | .fields vs => (match o.cls == .type "code" with
    | true => []
    | false => vs.toList.flatMap He.refV)
  | _ => []
def stepY (g : Addr → Option Obj) (as : List Addr) : List Addr := as.flatMap fun a => match g a with
  | some o => rfY o
  | none => []
def lvY (g : Addr → Option Obj) : Nat → List Addr → List Addr
  | 0, as => as
  | n + 1, as => as ++ lvY g n (stepY g as)
def asY (names : List Str) (g : Addr → Option Obj) : List Addr := mainGlobals :: cStatics :: lvY g 4 (names.flatMap (nsG g mainGlobals))
def obsYG (names : List Str) (fa : List He.Fa) (fx : List (Frag → Bool)) (fn : List DfX) (g : Addr → Option Obj) : AlX := obsK fa fx fn (He.frG g (asY names g))
def hookY (names : List Str) (fa : List He.Fa) (fx : List (Frag → Bool)) (fn : List DfX) : PySem.W.Hook where
  α := AlX
  obs := fun s => obsYG names fa fx fn s.heap.get?
  val := fun _ => valX fn
  says := fun _ h => ∃ K : Frag, K.In h ∧ SaysX fa fx fn K
  of := fun _ _ e => ⟨_, He.frG_in, e⟩
  keeps := fun _ _ _ ⟨K, hK, c⟩ k => ⟨K, PySem.W.Frag.In.keeps hK k, c⟩
theorem obsYG_eq {names : List Str} {fa : List He.Fa} {fx : List (Frag → Bool)} {fn : List DfX} {g : Addr → Option Obj} {s : Shared} (h : ∀ a, g a = s.heap.get? a) : obsYG names fa fx fn g = (hookY names fa fx fn).obs s := by
  have e : g = s.heap.get? := funext h
  rw [e] <;> rfl
theorem run_split2 {σ β γ : Type} {o : Option σ} {f : σ → Bool} {g : σ → β} {h : σ → γ} {v2 : β} {v3 : γ} (h1 : o.map (fun s => (f s, g s)) = some (true, v2)) (h2 : o.map h = some v3) : o.map (fun s => (f s, g s, h s)) = some (true, v2, v3) := by
  cases o with
  | none => cases h1
  | some s =>
    have e1 : (f s, g s) = (true, v2) := Option.some.inj h1
    have e2 : h s = v3 := Option.some.inj h2
    obtain ⟨e3, e4⟩ := Prod.mk.inj e1
    show some (f s, g s, h s) = _
    rw [e3, e4, e2]
end S
namespace S
open PySem PySem.Spec PyProof.Rows L2
/-! ### classes whose instances have a dict -/
structure DF (K : Frag) (x : Str) (ups : List Str) (fs : List Str) : Prop where
  mf : MF K x ups ["object"]
  cl : Cls K (He.ga K x)
  ha : PySem.W.findIn K (.ref (He.ga K x)) "__class__" = some (some (.builtin "object.__class__"))
  hn : PySem.W.specialIn K (.builtin "object.__class__") "__get__" = some (some (.builtin "getset_descriptor.__get__"))
  ht : PySem.W.takesIn K (.builtin "object.__class__") = some true
  hm : PySem.W.mroIn K (He.ga K x) (.type "object") = some true
  na : ∀ f ∈ fs, NoAttr K (He.ga K x) f
def dfB (x : Str) (ups fs : List Str) (K : Frag) : Bool := mfB K x ups ["object"] && ((He.Fa.cls x).ok K && (He.eqO (PySem.W.findIn K (.ref (He.ga K x)) "__class__") (some (some (.builtin "object.__class__"))) && (He.eqO (PySem.W.specialIn K (.builtin "object.__class__") "__get__") (some (some (.builtin "getset_descriptor.__get__"))) &&
  (decide (PySem.W.takesIn K (.builtin "object.__class__") = some true) && (decide (PySem.W.mroIn K (He.ga K x) (.type "object") = some true) && fs.all fun f => He.eqO (PySem.W.findIn K (.ref (He.ga K x)) f) (some none))))))
theorem dfB_ok {K : Frag} {x : Str} {ups fs : List Str} (h : dfB x ups fs K = true) : DF K x ups fs := by
  obtain ⟨h1, h⟩ := He.ba h
  obtain ⟨h2, h⟩ := He.ba h
  obtain ⟨h3, h⟩ := He.ba h
  obtain ⟨h4, h⟩ := He.ba h
  obtain ⟨h5, h⟩ := He.ba h
  obtain ⟨h6, h7⟩ := He.ba h
  exact ⟨mfB_ok h1, He.cls_ok h2, He.eqO_ok h3, He.eqO_ok h4, of_decide_eq_true h5, of_decide_eq_true h6, fun f hf => He.eqO_ok (List.all_eq_true.mp h7 f hf)⟩
section
variable {K : Frag} {H : Hp} {a dx : Addr} {x f : Str} {ups fs : List Str} {as : List (Str × V)}
theorem Atr.df {k : V → Prop} {v : V} (c : DF K x ups fs) (h : H a = some (.ins (He.ga K x) dx as)) (l : as.lookup f = some v) (q : k v) (hf : f ∈ fs := by decide) : Atr K H a f k := ⟨.inr ⟨_, dx, as, v, h, c.cl, c.na f hf, l, q⟩⟩
theorem Sto.df {k : Hp → Prop} {y : V} (c : DF K x ups fs) (h : H a = some (.ins (He.ga K x) dx as)) (l : as.length < 1000) (q : k (upd H a (.ins (He.ga K x) dx (putF f y as)))) (hf : f ∈ fs := by decide) : Sto K H a f y k := ⟨.inr ⟨_, dx, as, h, c.cl, c.na f hf, l, q⟩⟩
theorem Isi.df {y : Str} {ups' : List Str} {tys' : List String} {k : Bool → Prop} (c : DF K x ups fs) (h : H a = some (.ins (He.ga K x) dx as)) (n : MF K y ups' tys') (q : k (decide (y ∈ x :: ups))) : Isi K H (.ref a) (.ref (He.ga K y)) k :=
  Isi.of (.base (.ins h c.cl c.ha c.hn c.ht c.hm)) (mf_kit c.mf n) q
end
/-! ### methods, properties of such instances -/
structure IsD (K : Frag) (H : Hp) (c m : Str) (a : Addr) (q : Prop) : Prop where
  ex : ∃ dx fs, H a = some (.ins (He.ga K c) dx fs) ∧ fs.lookup m = none
  q : q
theorem IsD.of {K : Frag} {H : Hp} {c m : Str} {a dx : Addr} {fs : List (Str × V)} {q : Prop} (h : H a = some (.ins (He.ga K c) dx fs)) (h2 : q) (l : fs.lookup m = none := by rfl) : IsD K H c m a q := ⟨⟨dx, fs, h, l⟩, h2⟩
def dMethD (K : Frag) (c m : Str) (sp : Sp) (E : L2.St → XK) (ta : TE) (t : TA) : TE := fun σ H Q => ta σ H fun x H1 => match x with
  | .ref a => IsD K H1 c m a (t σ H1 fun ws H2 => sp (.ref a :: ws) H2 Q (E σ))
  | _ => False
section
variable {X : Cx} {k : Nat} {g : Addr} {sp : Sp} {E : L2.St → XK} {x c m : Str} {p pos apos : Pos} {e o : Expr} {es : List Expr} {t : TA} {ta : TE}
theorem pe_methD {pl : Sem Bool} (hc : Cls X.K (He.ga X.K c)) (hm : Meth X.K (He.ga X.K c) m g) (F : FnR X.prog X.w X.K X.mg X.base (L2.CX X.prog X.w) k g sp) (hr : Room k X.A) (hx : ∀ σ, PassesAt (L2.CX X.prog X.w) X σ (E σ)) (he : PE X o ta) (ha : PA X (e :: es) t)
    (hst : starEach (e :: es) X.env = (false, eval e X.env) :: starEach es X.env := by rfl) (hpl : (backTo pos (starEach es X.env)).any (·.1) = false := by rfl)
    (ht : eval (.Call (.Attribute o m apos) (e :: es) [] pos) X.env = (do
      let ov ← eval o X.env
      standAt apos.atName
      let (f, first) ← holding [ov] (getMethod ov m pl)
      callWith pos f first (backTo pos (starEach (e :: es) X.env)) (backToKw pos (keywordEach [] X.env))) := by rfl) :
    PE X (.Call (.Attribute o m apos) (e :: es) [] pos) (dMethD X.K c m sp E ta t) := by
  refine ⟨fun pins s σ H Q I h => ?_⟩
  refine PySem.W.methodCall_KW (pl := pl) (thn (he.run pins s σ H _ I h) fun u s1 ⟨x, H1, I1, rx, q⟩ => ?_) ht
  cases x <;> try exact q.elim
  cases rx
  obtain ⟨⟨dx, fs, ea, l⟩, q⟩ := q
  refine getmeth_ok I1 ea hc hm l ?_
  refine PySem.W.callWith_K (first := [.ref _]) (h₀ := X.base) I.ok.mod.kin hm.kp (thn (ha.run pos pins s1 σ H1 _ I1 q) fun us s2 ⟨ws, H2, I2, r, q2⟩ => ⟨I2.kIn, ?_⟩) hst hpl
  exact run_R (us := .ref _ :: us) (vs := .ref _ :: ws) F hr (hx σ) I2 (.cons rfl r) q2
theorem pe_methD0 {pl : Sem Bool} (hc : Cls X.K (He.ga X.K c)) (hm : Meth X.K (He.ga X.K c) m g) (F : FnR X.prog X.w X.K X.mg X.base (L2.CX X.prog X.w) k g sp) (hr : Room k X.A) (hx : ∀ σ, PassesAt (L2.CX X.prog X.w) X σ (E σ)) (he : PE X o ta)
    (ht : eval (.Call (.Attribute o m apos) [] [] pos) X.env = (do
      let ov ← eval o X.env
      standAt apos.atName
      let (f, first) ← holding [ov] (getMethod ov m pl)
      callWith pos f first (backTo pos (starEach [] X.env)) (backToKw pos (keywordEach [] X.env))) := by rfl) :
    PE X (.Call (.Attribute o m apos) [] [] pos) (dMethD X.K c m sp E ta tNil) := by
  refine ⟨fun pins s σ H Q I h => ?_⟩
  refine PySem.W.methodCall_KW (pl := pl) (thn (he.run pins s σ H _ I h) fun u s1 ⟨x, H1, I1, rx, q⟩ => ?_) ht
  cases x <;> try exact q.elim
  cases rx
  obtain ⟨⟨dx, fs, ea, l⟩, q⟩ := q
  refine getmeth_ok I1 ea hc hm l ?_
  exact PySem.W.callWith_K0 (first := [.ref _]) I1.kIn hm.kp (run_R (us := [.ref _]) (vs := [.ref _]) F hr (hx σ) I1 (.cons rfl .nil) q)
def dPropD (K : Frag) (c f : Str) (sp : Sp) (ta : TE) : TE := fun σ H Q => ta σ H fun x H1 => match x with
  | .ref a => IsD K H1 c f a (sp [.ref a] H1 Q E0)
  | _ => False
theorem pe_propD {f : Str} {n : Nat} (hc : Cls X.K (He.ga X.K c)) (pf : PropF X.K c f g) (F : FnR X.prog X.w X.K X.mg X.base (L2.CX X.prog X.w) n g sp) (hr : Room (n + 1) X.A) (he : PE X e ta)
    (hb : attributeBase e f X.env (eval e X.env) = eval e X.env := by rfl) : PE X (.Attribute e f pos) (dPropD X.K c f sp ta) := by
  refine ⟨fun pins s σ H Q I h => ?_⟩
  refine attr_of hb (thn (he.run pins s σ H _ I h) fun w s1 ⟨x, H1, I1, rx, q⟩ => ?_)
  cases x <;> try exact q.elim
  cases rx
  obtain ⟨⟨dx, fs, ea, l⟩, q⟩ := q
  obtain ⟨mA, O, _, _, _, _⟩ := ins_get I1.hok ea
  obtain ⟨od, J, _⟩ := O.look
  obtain ⟨rest, hrec⟩ := pf.rc
  have I2 := I1.tok (s1.toks + 1)
  have hcl : (PySem.W.clsIn X.K (He.ga X.K c)).isSome = true := by
    obtain ⟨cd, h2, _⟩ := PySem.W.any_some hc.hd
    rw [h2]
    rfl
  refine PySem.W.get_bind I1.kIn J (PySem.W.plainGet_of (hc.get f)).1 (PySem.W.findObj_data hcl pf.at_ pf.get pf.tk) (PySem.W.plainGet_of (hc.get f)).2 (wpAny_call (PySem.W.prop_get (s := { s1 with toks := s1.toks + 1 }) I1.kIn hrec ?_))
  refine codeAny_mono (F X.A.in1 X.stack { s1 with toks := s1.toks + 1 } H1 [.ref _] [.ref _] Q E0 hr.in1 I2.env0.in1 (.cons rfl .nil) q) fun r s' hq => ?_
  cases r with
  | error er =>
    obtain ⟨_, _, _, _, _, _, _, _, _, _, _, _, z⟩ := hq
    exact z.elim
  | ok fl =>
    cases fl with
    | ret u =>
      obtain ⟨v, H', I3, rv, q3⟩ := I2.after hq
      exact wpAny_of_eq (PySem.W.handedOut_of (handed_of rv)) ⟨v, H', I3, rv, q3⟩
    | next => exact False.elim hq
    | brk => exact False.elim hq
    | cont => exact False.elim hq
end
/-! ### calls with keywords -/
structure FK (P : Program) (w : World) (K : Frag) (mg : Str → Option Value) (base : Heap) (k : Nat) (f : Addr) (n : Nat) (ks : List Str) (sp : Sp) (gV : List V → List V → List V) : Prop where
  ex : ∃ (fd : FuncData) (ps : List Str) (g : List Value → List Value → List Value), FnOk P w K mg base (L2.CX P w) k f fd ps sp ∧ KBn K fd ps n ks g gV
theorem mk_fnK {P : Program} {w : World} {K : Frag} {mg : Str → Option Value} {base : Heap} {x qual : Str} {params : Arguments} {body : List Stmt} {scope : Scope} {f : Addr} {fd : FuncData} {N ps ks : List Str} {k n : Nat} {sp : Sp} {dvs : List V} {kws : List (Str × V)} {gV : List V → List V → List V} (F : FunD K x qual params body scope dvs kws f fd) (S : FnScope N ps scope)
    (len : ∀ vs H Q E, sp vs H Q E → vs.length = ps.length) (hb : ∃ g, KBn K fd ps n ks g gV) {t : XK → TS}
    (hbody : ∀ (cdv : Value) (A : Around) (outer : List Env) (s : Shared) (H : Hp) (E : XK), Room k (A.deeper (envOfC qual scope s.heap.objs.size f cdv)) →
      PSs (cxD P w K mg base N qual scope f cdv A outer s H E) body (t E))
    (pure : ∀ vs H Q E, sp vs H Q E → t E { nx := fun _ H' => Q .non H', rt := Q } (start N vs) H) : FK P w K mg base (k + 1) f n ks sp gV := by
  obtain ⟨g, hb⟩ := hb
  exact ⟨fd, ps, g, FunD.ok (P := P) (w := w) (mg := mg) (base := base) (CX := L2.CX P w) (sp := sp) F S len fun cdv A outer s H vs Q E hr h => ⟨t E, hbody cdv A outer s H E hr, pure vs H Q E h⟩, hb⟩
def dCallK (n m : Nat) (sp : Sp) (gV : List V → List V → List V) (E : L2.St → XK) (t tk : TA) : TE := fun σ H Q => t σ H fun vs H1 => tk σ H1 fun zs H2 => vs.length = n ∧ zs.length = m ∧ sp (gV vs zs) H2 Q (E σ)
def dMethDK (K : Frag) (c mt : Str) (n m : Nat) (sp : Sp) (gV : List V → List V → List V) (E : L2.St → XK) (ta : TE) (t tk : TA) : TE := fun σ H Q => ta σ H fun x H1 => match x with
  | .ref a => IsD K H1 c mt a (t σ H1 fun vs H2 => tk σ H2 fun zs H3 => vs.length + 1 = n ∧ zs.length = m ∧ sp (gV (.ref a :: vs) zs) H3 Q (E σ))
  | _ => False
section
variable {X : Cx} {k n : Nat} {f g : Addr} {ks : List Str} {sp : Sp} {E : L2.St → XK} {x c m : Str} {p pos apos : Pos} {e o : Expr} {es : List Expr} {kws : List Keyword} {t tk : TA} {ta : TE} {gV : List V → List V → List V}
theorem run_FK {pins : List (Addr × Obj)} {σ : L2.St} {H : Hp} {s : Shared} {Q : VK} {us ws : List Value} {vs zs : List V} (F : FK X.prog X.w X.K X.mg X.base k f n ks sp gV) (hr : Room k X.A) (hx : PassesAt (L2.CX X.prog X.w) X σ (E σ))
    (I : Inv X pins σ H s) (r : Vals vs us) (rz : Vals zs ws) (l1 : vs.length = n) (l2 : zs.length = ks.length) (h : sp (gV vs zs) H Q (E σ)) : wpAny (model X.prog X.w) X.A (call (.ref f) us (ks.zip ws)) (EP X pins σ Q) X.xe s := by
  obtain ⟨fd, ps, gg, F, hb⟩ := F.ex
  have r2 := hb.rel r rz
  refine wpAny_call (codeAny_mono (F.run X.A X.stack s H ⟨us, ks.zip ws⟩ (gg us ws) (gV vs zs) Q (E σ) hr I.env0 (hb.to s us ws I.kIn (r.length.symm.trans l1) (rz.length.symm.trans l2)) r2 h) fun r s' hq => ?_)
  cases r with
  | error e => exact hx pins H s e s' I hq
  | ok fl =>
    cases fl with
    | ret u => exact I.after hq
    | next => exact False.elim hq
    | brk => exact False.elim hq
    | cont => exact False.elim hq
/-- f(e, .., k = v, ..) -/
theorem pe_callK (F : FK X.prog X.w X.K X.mg X.base k f n ks sp gV) (hr : Room k X.A) (hm : X.mg x = some (.ref f)) (hk : PySem.W.keepIn X.K (.ref f) = true) (hx : ∀ σ, PassesAt (L2.CX X.prog X.w) X σ (E σ))
    (ha : PA X (e :: es) t) (hkw : PK X kws tk) (hg : Gl X x := by rfl) (hall : (backToKw pos (keywordEach kws X.env)).all (·.1.isSome) = true := by rfl) (hks : (backToKw pos (keywordEach kws X.env)).filterMap (·.1) = ks := by rfl)
    (hdb : (x == ("__debug__" : Str)) = false := by decide) (he : starEach (e :: es) X.env = (false, eval e X.env) :: starEach es X.env := by rfl)
    (hpl : ((backTo pos (starEach (e :: es) X.env)).any (·.1) || (backToKw pos (keywordEach kws X.env)).any (·.1.isNone)) = false := by rfl) :
    PE X (.Call (.Name x p) (e :: es) kws pos) (dCallK n ks.length sp gV E t tk) := by
  refine ⟨fun pins s σ H Q I h => ?_⟩
  refine wpAny_Call_Name_kw (ld_glob I hg hm ?_ hdb)
  refine PySem.W.callWith_KW (h₀ := X.base) I.ok.mod.kin hk hall (thn (ha.run pos pins s σ H _ I h) fun us s1 ⟨vs, H1, I1, r, q⟩ => ?_) hpl he
  refine thn (hkw.run pos pins s1 σ H1 _ I1 q) fun ws s2 ⟨zs, H2, I2, rz, l1, l2, q2⟩ => ⟨I2.kIn, ?_⟩
  rw [hks]
  exact run_FK F hr (hx σ) I2 r rz l1 l2 q2
/-- o.m(e, .., k = v, ..), o an instance with a dict -/
theorem pe_methDK {pl : Sem Bool} (hc : Cls X.K (He.ga X.K c)) (hm : Meth X.K (He.ga X.K c) m g) (F : FK X.prog X.w X.K X.mg X.base k g n ks sp gV) (hr : Room k X.A) (hx : ∀ σ, PassesAt (L2.CX X.prog X.w) X σ (E σ)) (he : PE X o ta) (ha : PA X (e :: es) t) (hkw : PK X kws tk)
    (hall : (backToKw pos (keywordEach kws X.env)).all (·.1.isSome) = true := by rfl) (hks : (backToKw pos (keywordEach kws X.env)).filterMap (·.1) = ks := by rfl)
    (hst : starEach (e :: es) X.env = (false, eval e X.env) :: starEach es X.env := by rfl) (hpl : ((backTo pos (starEach (e :: es) X.env)).any (·.1) || (backToKw pos (keywordEach kws X.env)).any (·.1.isNone)) = false := by rfl)
    (ht : eval (.Call (.Attribute o m apos) (e :: es) kws pos) X.env = (do
      let ov ← eval o X.env
      standAt apos.atName
      let (f, first) ← holding [ov] (getMethod ov m pl)
      callWith pos f first (backTo pos (starEach (e :: es) X.env)) (backToKw pos (keywordEach kws X.env))) := by rfl) :
    PE X (.Call (.Attribute o m apos) (e :: es) kws pos) (dMethDK X.K c m n ks.length sp gV E ta t tk) := by
  refine ⟨fun pins s σ H Q I h => ?_⟩
  refine PySem.W.methodCall_KW (pl := pl) (thn (he.run pins s σ H _ I h) fun u s1 ⟨x, H1, I1, rx, q⟩ => ?_) ht
  cases x <;> try exact q.elim
  cases rx
  obtain ⟨⟨dx, fs, ea, l⟩, q⟩ := q
  refine getmeth_ok I1 ea hc hm l ?_
  refine PySem.W.callWith_KW (first := [.ref _]) (h₀ := X.base) I.ok.mod.kin hm.kp hall (thn (ha.run pos pins s1 σ H1 _ I1 q) fun us s2 ⟨vs, H2, I2, r, q2⟩ => ?_) hpl hst
  refine thn (hkw.run pos pins s2 σ H2 _ I2 q2) fun ws s3 ⟨zs, H3, I3, rz, l1, l2, q3⟩ => ⟨I3.kIn, ?_⟩
  rw [hks]
  exact run_FK (us := .ref _ :: us) (vs := .ref _ :: vs) F hr (hx σ) I3 (.cons rfl r) rz (by rw [List.length_cons]; exact l1) l2 q3
end
end S
namespace S
open PySem PySem.Spec PyProof.Rows L2
/-! ### sum(a list of numbers) -/
structure SumL (K : Frag) (H : Hp) (a : Addr) (k : Int → Prop) : Prop where
  ex : ∃ ns : List Int, SqL K H a (ns.map V.int) ∧ k ns.sum
theorem SumL.of {K : Frag} {H : Hp} {a : Addr} {k : Int → Prop} {ns : List Int} (h : H a = some (.lst (ns.map V.int))) (q : k ns.sum) : SumL K H a k := ⟨ns, SqL.of h, q⟩
def cSum (K : Frag) : List V → Hp → VK → Prop := fun xs H Q => match xs with
  | [.ref a] => SumL K H a fun i => Q (.int i) H
  | _ => False
theorem c_sum {X : Cx} (hc : X.calm = true) : CallR X (.builtin "sum") (cSum X.K) := CallR.of (cr_sum hc) fun xs H Q q => by
  match xs, q with
  | [.ref a], ⟨⟨ns, h, q⟩⟩ => exact ⟨a, ns, rfl, h, q⟩
end S
namespace S
open PySem PySem.Spec PyProof.Rows L2
/-! ### x == y of an instance ahead with its own def and anything behind -/
/-- what the model takes the right side for -/
inductive RTy (K : Frag) (H : Hp) : V → Value → Prop where
  | dat {y : V} {d : PyData} (h : Dp K H y d) : RTy K H y (PySem.W.dataType d)
  | ins {b C dx : Addr} {vs : List (Option V)} (h : SlX.Slt H b C dx vs) : RTy K H (.ref b) (.ref C)
structure EqA (K : Frag) (c : Str) (sp : Sp) (E : XK) (H : Hp) (a : Addr) (y : V) (Q : VK) : Prop where
  ex : (∃ t, RTy K H y t ∧ PySem.W.notFirst K (He.ga K c) t = true ∧ IsO K H c a (sp [.ref a, y] H Q E)) ∨ oEq K (.ref a) y H Q
theorem EqA.of {K : Frag} {c : Str} {sp : Sp} {E : XK} {H : Hp} {a dx : Addr} {y : V} {Q : VK} {t : Value} {vs : List (Option V)} (r : RTy K H y t) (n : PySem.W.notFirst K (He.ga K c) t = true) (h : SlX.Slt H a (He.ga K c) dx vs) (q : sp [.ref a, y] H Q E) : EqA K c sp E H a y Q := ⟨.inl ⟨t, r, n, .of h q⟩⟩
theorem EqA.dat {K : Frag} {c : Str} {sp : Sp} {E : XK} {H : Hp} {a : Addr} {y : V} {Q : VK} (q : oEq K (.ref a) y H Q) : EqA K c sp E H a y Q := ⟨.inr q⟩
def oEqA (K : Frag) (c : Str) (sp : Sp) (E : XK) : R2 := fun x y H Q => match x with
  | .ref a => EqA K c sp E H a y Q
  | x => oEq K x y H Q
section
variable {X : Cx} {k : Nat} {g : Addr} {sp : Sp} {E : XK} {c : Str}
theorem op_eqA (hm : Meth X.K (He.ga X.K c) "__eq__" g) (F : FnR X.prog X.w X.K X.mg X.base (L2.CX X.prog X.w) k g sp) (hr : Room k X.A) (hx : ∀ σ, PassesAt (L2.CX X.prog X.w) X σ E) : OpR X (compareOp .Eq) (oEqA X.K c sp E) := by
  have h0 : OpR X (compareOp .Eq) (oEq X.K) := o_eq hr.units
  intro pins s σ H x y v u Q I rx ry q
  have own : ∀ a, x = .ref a → EqA X.K c sp E H a y Q → wpAny (model X.prog X.w) X.A (compareOp .Eq v u) (EP X pins σ Q) X.xe s := by
    intro a ex q1
    clear q
    subst ex
    rcases q1.ex with ⟨t, hy, hn, ⟨⟨dx, vs, hsl⟩, q⟩⟩ | q
    · cases rx
      obtain ⟨sl, od, _, J, _⟩ := SlX.slt_inst I hsl
      obtain ⟨m, hF⟩ := I.fr
      have hb : PySem.W.Looks (model X.prog X.w) s.heap (typeOf u) t := by
        cases hy with
        | dat h =>
          obtain ⟨as, hr⟩ := Dp.reads I _ _ _ h ry
          exact PySem.W.looks_reads hr
        | ins h =>
          cases ry
          obtain ⟨sl', od', _, J', _⟩ := SlX.slt_inst I h
          exact J'.type
      show wpAny _ _ (richCompare .Eq (.ref a) u) _ _ _
      refine PySem.W.cmp_K (op := .Eq) (tb := t) hr.units0 hF I.ok.mod.kin J hb hn hm.at_ hm.fn ?_
      refine wpAny_mono (run_op (us := [.ref a, u]) (vs := [.ref a, y]) F hr I.env0 hx I (.cons rfl (.cons ry .nil)) q) (fun w s' z => ?_) fun _ _ x => x
      obtain ⟨z', H', I', rz, qz⟩ := z
      exact SlX.cmpback rz ⟨z', H', I', rz, qz⟩
    · exact h0 pins s σ H _ _ v u Q I rx ry q
  cases x <;> first
    | exact own _ rfl q
    | exact h0 pins s σ H _ _ v u Q I rx ry q
end
/-- no class of the program stands among the built-in ones -/
theorem nf_int {K : Frag} {C : Addr} : PySem.W.notFirst K C (.type "int") = true := by unfold PySem.W.notFirst; rfl
theorem nf_tup {K : Frag} {C : Addr} : PySem.W.notFirst K C (.type "tuple") = true := by unfold PySem.W.notFirst; rfl
theorem nf_list {K : Frag} {C : Addr} : PySem.W.notFirst K C (.type "list") = true := by unfold PySem.W.notFirst; rfl
theorem nf_non {K : Frag} {C : Addr} : PySem.W.notFirst K C (.type "NoneType") = true := by unfold PySem.W.notFirst; rfl
theorem nf_str {K : Frag} {C : Addr} : PySem.W.notFirst K C (.type "str") = true := by unfold PySem.W.notFirst; rfl
theorem nf_self {K : Frag} {C : Addr} : PySem.W.notFirst K C (.ref C) = true := by unfold PySem.W.notFirst; simp
theorem nf_cls {K : Frag} {x y : Str} {ups ups' : List Str} {tys tys' : List String} (m : MF K x ups tys) (n : MF K y ups' tys') (h : y ∉ x :: ups) : PySem.W.notFirst K (He.ga K y) (.ref (He.ga K x)) = true := by
  have e := mf_cls m n
  obtain ⟨cd, e', _⟩ := n.cd
  change (if ((PySem.W.clsIn K (He.ga K y)).isSome && PySem.W.typeIn K (.ref (He.ga K y)) == some (.type "type")) = true then PySem.W.subIn K (.ref (He.ga K x)) (.ref (He.ga K y)) else none) = _ at e
  rw [if_pos (by rw [e', n.ty]; simp), decide_eq_false h] at e
  unfold PySem.W.notFirst
  rw [e]
  simp
end S
namespace S
open PySem PySem.Spec PyProof.Rows L2
/-! ### == of tuples of instances: what one address means is known in the run -/
theorem relV_inj {x y : V} {u : Value} (h : L2.RelV x u) (h2 : L2.RelV y u) : x = y := by
  have a : Vals [x] [u] := .cons h .nil
  have b : Vals [y] [u] := .cons h2 .nil
  exact List.cons.inj (a.inj b) |>.1
theorem slt_same14 {H H' : Hp} {a C dx : Addr} {vs : List (Option V)} (e : Same H H') (h : SlX.Slt H a C dx vs) : SlX.Slt H' a C dx vs := by
  rcases h with ⟨h, z⟩ | ⟨h, z⟩
  · exact .inl ⟨e _ _ h, z⟩
  · exact .inr ⟨e _ _ h, e _ _ z⟩
/-- what one heap says: tuples have one content -/
def TupOne (K : Frag) (H : Hp) : Prop := ∀ u xs ys, SqT K H u xs → SqT K H u ys → xs = ys
/-- two tuples of instances of c: their own == answers by bs -/
structure EqT2 (K : Frag) (c : Str) (sp : Sp) (E : XK) (H : Hp) (a b : Addr) (k : Bool → Hp → Prop) : Prop where
  ex : ∃ (xs ys : List V) (bs : Nat → Bool) (r : Bool), SqT K H a xs ∧ SqT K H b ys ∧
    (∀ (i : Nat) x y, xs[i]? = some x → ys[i]? = some y → ∃ p q dx vs dy ws, x = .ref p ∧ y = .ref q ∧ SlX.Slt H p (He.ga K c) dx vs ∧ SlX.Slt H q (He.ga K c) dy ws ∧ (TupOne K H → (∀ (j : Nat) v w, vs[j]? = some (some v) → ws[j]? = some (some w) → v = w) → p = q → bs i = true) ∧
      ∀ H', Same H H' → sp [.ref p, .ref q] H' (fun v H2 => v = .bl (bs i) ∧ Same H' H2) E) ∧
    (r = true ↔ xs.length = ys.length ∧ ∀ j, j < xs.length → bs j = true) ∧ ∀ H', Same H H' → k r H'
section
variable {X : Cx} {k : Nat} {g : Addr} {sp : Sp} {E : XK} {c : Str}
theorem eqT2_run (hm : Meth X.K (He.ga X.K c) "__eq__" g) (F : FnR X.prog X.w X.K X.mg X.base (L2.CX X.prog X.w) k g sp) (hr : Room (k + 1) X.A) (hx : ∀ σ, PassesAt (L2.CX X.prog X.w) X σ E) {pins : List (Addr × Obj)} {s : Shared} {σ : L2.St} {H : Hp} {a b : Addr} {Q : VK} (I : Inv X pins σ H s)
    (q : EqT2 X.K c sp E H a b fun r H' => Q (.bl r) H') : wpAny (model X.prog X.w) X.A (richCompare .Eq (.ref a) (.ref b)) (EP X pins σ Q) X.xe s := by
  obtain ⟨⟨xs, ys, bs, r, ha, hb, hi, hr2, q⟩⟩ := q
  refine eqT_run hm F hr hx I ⟨⟨xs, ys, bs, r, ha, hb, fun i x y h1 h2 => ?_, hr2, q⟩⟩
  obtain ⟨p, p2, dx, vs, dy, ws, ex, ey, hs1, hs2, hsame, hown⟩ := hi i x y h1 h2
  refine ⟨p, p2, ex, ey, fun e => ?_, fun H' e' => .of (slt_same14 e' hs1) (.of (slt_same14 e' hs2) (hown H' e'))⟩
  subst e
  refine hsame (fun u zs ws h h' => I.tuple_inj h h') (fun j v w hv hw => ?_) rfl
  obtain ⟨sl, od, r1, J, _⟩ := SlX.slt_inst I hs1
  obtain ⟨sl', od', r2, J', _⟩ := SlX.slt_inst I hs2
  obtain ⟨u1, e1, q1⟩ := r1 j v hv
  obtain ⟨u2, e2, q2⟩ := r2 j w hw
  have hJ := J.1
  have hJ' := J'.1
  rw [hJ] at hJ'
  have es := congrArg (fun o : Option Obj => o.map Obj.slots) hJ'
  have es2 : sl = sl' := Option.some.inj es
  subst es2
  rw [e1] at e2
  cases e2
  exact relV_inj q1 q2
structure EqOT2 (K : Frag) (c : Str) (sp : Sp) (E : XK) (H : Hp) (a b : Addr) (Q : VK) : Prop where
  ex : EqOr K c H a b (sp [.ref a, .ref b] H Q E) (fun k => Q (.bl k) H) ∨ EqT2 K c sp E H a b fun r H' => Q (.bl r) H'
def oEqT2 (K : Frag) (c : Str) (sp : Sp) (E : XK) : R2 := fun x y H Q => match x, y with
  | .ref a, .ref b => EqOT2 K c sp E H a b Q
  | x, y => oEq K x y H Q
theorem op_eqT2 (hm : Meth X.K (He.ga X.K c) "__eq__" g) (F : FnR X.prog X.w X.K X.mg X.base (L2.CX X.prog X.w) k g sp) (hr : Room (k + 1) X.A) (hx : ∀ σ, PassesAt (L2.CX X.prog X.w) X σ E) : OpR X (compareOp .Eq) (oEqT2 X.K c sp E) := by
  have h1 : OpR X (compareOp .Eq) (oEqO X.K c sp E) := op_eqO hm F (hr.mono (Nat.le_succ _)) hx
  have h0 : OpR X (compareOp .Eq) (oEq X.K) := o_eq hr.units
  intro pins s σ H x y v u Q I rx ry q
  have two : ∀ a b, x = .ref a → y = .ref b → EqOT2 X.K c sp E H a b Q → wpAny (model X.prog X.w) X.A (compareOp .Eq v u) (EP X pins σ Q) X.xe s := by
    intro a b ex ey q1
    clear q
    subst ex ey
    rcases q1.ex with q | q
    · exact h1 pins s σ H _ _ v u Q I rx ry q
    · cases rx
      cases ry
      exact eqT2_run hm F hr hx I q
  cases x <;> cases y <;> first
    | exact two _ _ rfl rfl q
    | exact h0 pins s σ H _ _ v u Q I rx ry q
end
end S
namespace S
open PySem PySem.Spec PyProof.Rows L2 GenW
section
variable {prog : Program} {w : World} {A : Around} {R : GenEnd} {Y : Protocol} {n : Nat} {s₀ : Shared} {fs : List Frame} {s : Shared} {env : Env}
theorem seg_forLoop {target : Expr} {it : Value} {body : List Stmt}
    (h : wpAny (model prog w) (A.over (.forLoop target it body [] env) fs) (pyNext it) (fun r s' => match r with
      | none => Seg (model prog w) A R Y n s₀ (.block [] env) ((model prog w).den (.block [] env)) fs s'
      | some v => wpAny (model prog w) (A.over (.forLoop target it body [] env) fs) (letOwnedTupleGo target it v) (fun _ s1 => wpAny (model prog w) (A.over (.forLoop target it body [] env) fs) (assign target env v) (fun _ s2 =>
          Seg (model prog w) A R Y n s₀ (.forLoop target it body [] env) ((execs body env).wrap (fun f => match f with
            | .next | .cont => .pure (.again (.forLoop target it body [] env))
            | .brk => .pure (.done .next)
            | .ret v => .pure (.done (.ret v))) (fun e => (do noteFrame e env; theTreesLotGoes e : Sem Unit).wrap (fun _ => .raise e) .raise id id) id id) fs s2)
        (fun x s' => Seg (model prog w) A R Y n s₀ (.forLoop target it body [] env) ((do noteFrame x env; theTreesLotGoes x : Sem Unit).wrap (fun _ => .raise x) .raise id id) fs s') s1)
        (fun x s' => Seg (model prog w) A R Y n s₀ (.forLoop target it body [] env) ((do noteFrame x env; theTreesLotGoes x : Sem Unit).wrap (fun _ => .raise x) .raise id id) fs s') s')
      (fun x s' => Seg (model prog w) A R Y n s₀ (.forLoop target it body [] env) ((do noteFrame x env; theTreesLotGoes x : Sem Unit).wrap (fun _ => .raise x) .raise id id) fs s') s) :
    Seg (model prog w) A R Y n s₀ (.forLoop target it body [] env) ((model prog w).den (.forLoop target it body [] env)) fs s := by
  show Seg _ A R Y n s₀ _ ((forTurn target it body [] env).onRaise (fun x => do noteFrame x env; theTreesLotGoes x)) fs s
  have hx' : ∀ (x : Value) (s' : Shared), Seg (model prog w) A R Y n s₀ (.forLoop target it body [] env) ((do noteFrame x env; theTreesLotGoes x : Sem Unit).wrap (fun _ => .raise x) .raise id id) fs s' → Seg (model prog w) A R Y n s₀ (.forLoop target it body [] env) ((do noteFrame x env; theTreesLotGoes x : Sem Unit).bind fun _ => .raise x) fs s' := fun x s' hx => by
    rw [Sem.bind_eq_wrap]; exact hx
  unfold forTurn
  rw [Sem.onRaise_eq_wrap]
  refine seg_bind_wrap (wpAny_standAt ?_)
  refine seg_bind_wrap (wpAny_onRaise (wpAny_mono h (fun r s' hr => ?_) fun x s' hx => wpAny_standAt (hx' x s' hx)))
  cases r with
  | none => exact seg_again rfl hr
  | some v =>
    refine seg_bind_wrap (wpAny_mono hr (fun _ s1 h1 => ?_) fun x s' hx => hx' x s' hx)
    refine seg_bind_wrap (wpAny_mono h1 (fun _ s2 h2 => ?_) fun x s' hx => hx' x s' hx)
    rw [Sem.bind_eq_wrap', Sem.wrap_wrap]
    rw [Sem.wrap_congr (execs body env) _ _ (K' := fun f => match f with
            | .next | .cont => .pure (.again (.forLoop target it body [] env))
            | .brk => .pure (.done .next)
            | .ret v => .pure (.done (.ret v))) (H' := (fun e => (do noteFrame e env; theTreesLotGoes e : Sem Unit).wrap (fun _ => .raise e) .raise id id))
        (fun f => by cases f <;> rfl)
        (fun e => by first | exact Sem.bind_eq_wrap _ _ | (show (do noteFrame e env; theTreesLotGoes e : Sem Unit).bind (fun _ => .raise e) = _; rw [Sem.bind_eq_wrap]))]
    exact h2
theorem seg_block0 (h : Seg (model prog w) A R Y n s₀ (.block [] env) (.pure (.done .next)) fs s) : Seg (model prog w) A R Y n s₀ (.block [] env) ((model prog w).den (.block [] env)) fs s := h
end
section
variable {X : Cx}
def tGFor (wi : TI) (g : TG) (tb : TGn) : TGn := fun D ys σ H => wi σ H fun J H1 => ∃ W : Nat → Nat → List V → L2.St → Hp → Prop, (∃ m, W 0 m ys σ H1) ∧ ∀ i m ys σ H, W i m ys σ H →
  (J.stop i H ∧ D.nx ys σ H) ∨ (J.go i H ∧ ∃ N : List V → L2.St → Hp → Prop, (∀ ys' σ' H', N ys' σ' H' → ∃ m', m' < m ∧ W (i + 1) m' ys' σ' H') ∧ ∀ x H', J.yld i H x H' → g x σ H' fun σ2 H2 => tb { D with nx := N, ct := N, bk := D.nx } ys σ2 H2)
theorem gs_for {tg iter : Expr} {body : List Stmt} {wi : TI} {g : TG} {tb : TGn} {pos : Pos} (hp : PassesOwn (model X.prog X.w) X.A X.env X.xe) (hc : X.calm = true) (hi : PI X tg iter wi) (hg : PG X tg g) (hb : GSs X body tb)
    (hs : ∀ x, foldedSetIterable iter X.env x = pure x := by intro _; rfl) : GS X (.For tg iter body [] pos) (tGFor wi g tb) := by
  refine ⟨fun A S ip R n ys s₀ c fs K J gd lv s σ H D gc hn k hI ht => ?_⟩
  obtain ⟨acc, cc, r, I⟩ := hI
  rw [exec_For]
  refine seg_bind_wrap (wpAny_standAt ?_)
  refine seg_bind_wrap ?_
  rw [gc.over]
  refine wpAny_mono (hi.run _ s σ H _ I ht) (fun v s1 h1 => ?_) fun x s' hx => k.exc n s₀ x s' hx
  refine seg_bind_wrap (wpAny_of_eq (hs v) ?_)
  refine seg_bind_wrap (wpAny_standAt ?_)
  refine seg_bind_wrap (wpAny_holding ?_)
  rw [gc.over]
  refine wpAny_mono h1 (fun itv s2 h2 => ?_) fun x s' hx => k.exc n s₀ x s' hx
  obtain ⟨it, fp, tn, It, H2, e, I2, T, st2, f2, W, ⟨m0, w0⟩, turn⟩ := h2
  subst e
  refine seg_call fun p => ?_
  have gl := fun (kk : Result → Sem PySem.Fin) => gc_loop (k := kk) (c' := .forLoop tg (.ref it) body [] X.env) (l := lv []) (kp := []) (p := p) gc rfl rfl
  have fpS : ∀ b ∈ fp, b ≠ S := fun b hb e => (f2 b hb).2.2.2.2.2 (S, lstObj acc cc) (List.mem_append_right _ List.mem_cons_self) e.symm
  have stat : ∀ {H' : Hp} {acc' : Array Value} {cc' : Nat}, (∀ b ∈ fp, H' b = none) → ∀ b ∈ fp, FpOk X ((S, lstObj acc' cc') :: ip) H' b := fun hn b hb => by
    obtain ⟨_, q1, q2, q3, q4, q5⟩ := f2 b hb
    refine ⟨hn b hb, q1, q2, q3, q4, fun p hp => ?_⟩
    rcases List.mem_append.mp hp with hp | hp
    · exact q5 p (List.mem_append_left _ hp)
    · rcases List.mem_cons.mp hp with hp | hp
      · rw [hp]; exact (fpS b hb).symm
      · exact q5 p (List.mem_append_right _ (List.mem_cons_of_mem _ hp))
  have loop : ∀ (m i n : Nat) (ys : List V) (s₀ s : Shared) (σ : L2.St) (H : Hp), n + ys.length = sizeLine → W i m ys σ H → GI X S ip ys σ H s → tn i s.heap → (∀ b ∈ fp, H b = none) →
      Seg (model X.prog X.w) A R (GY X S) n s₀ (.forLoop tg (.ref it) body [] X.env) ((model X.prog X.w).den (.forLoop tg (.ref it) body [] X.env))
        (.ret (fun r => ((match r with | .ok f => (.pure f : Sem Flow) | .error e => .raise e).onRaise (cameBack X.env)).wrap K J gd lv) none (gd false) (lv []) c p [] :: fs) s := by
    intro m
    induction m using Nat.strongRecOn with
    | ind m ih =>
      intro i n ys s₀ s σ H hn w hI st fr
      have ee : ∀ (n : Nat) (s₀ : Shared) (x : Value) (s' : Shared), X.xe x s' → Seg (model X.prog X.w) A R (GY X S) n s₀ (.forLoop tg (.ref it) body [] X.env)
          ((do noteFrame x X.env; theTreesLotGoes x : Sem Unit).wrap (fun _ => .raise x) .raise id id)
          (.ret (fun r => ((match r with | .ok f => (.pure f : Sem Flow) | .error e => .raise e).onRaise (cameBack X.env)).wrap K J gd lv) none (gd false) (lv []) c p [] :: fs) s' := fun n s₀ x s' hx => by
        refine seg_wrap ?_
        rw [(gl _).over]
        refine wpAny_bind (wpAny_mono (hp x s' hx) (fun _ s'' hcb => wpAny_theTreesLotGoes ?_) fun y s'' hcb => ?_)
        · exact seg_leaf (.error x) (seg_cameBack gc k hcb)
        · exact seg_leaf (.error y) (seg_cameBack gc k hcb)
      refine seg_forLoop ?_
      rw [(gl _).over]
      obtain ⟨acc1, cc1, r1, I1⟩ := hI
      rcases turn i m ys σ H w with ⟨stop, qn⟩ | ⟨go, N, hN, step⟩
      · refine wpAny_mono (T.done X rfl rfl rfl hc i _ s σ H X.xe I1 (stat fr) st stop) (fun r s4 h4 => ?_) fun x s' hx => ee n s₀ x s' hx
        obtain ⟨hr, I4⟩ := h4
        subst hr
        refine seg_block0 ?_
        exact seg_leaf (.ok .next) (k.ok n ys s₀ s4 .next hn ⟨σ, H, ⟨acc1, cc1, r1, I4⟩, qn⟩)
      · refine wpAny_mono (T.item X rfl rfl rfl hc i _ s σ H X.xe I1 (stat fr) st go) (fun r s4 h4 => ?_) fun x s' hx => ee n s₀ x s' hx
        obtain ⟨u, hr, h4⟩ := h4
        subst hr
        refine wpAny_mono h4 (fun _ s5 h5 => ?_) fun x s' hx => ee n s₀ x s' hx
        obtain ⟨x, H5, I5, r5, y5, st5, fr5⟩ := h5
        have I5' := I5.pinned (stat fr5) (T.obj _ _ st5)
        refine wpAny_mono (hg.run _ s5 σ H5 x u _ I5' r5 (step x H5 y5)) (fun _ s6 h6 => ?_) fun x s' hx => ee n s₀ x s' hx
        obtain ⟨σ6, H6, I6, q6⟩ := h6
        have gl' : GC X S (ip ++ pinsAt fp s5.heap) A (.forLoop tg (.ref it) body [] X.env) (.ret (fun r => ((match r with | .ok f => (.pure f : Sem Flow) | .error e => .raise e).onRaise (cameBack X.env)).wrap K J gd lv) none (gd false) (lv []) c p [] :: fs) id :=
          ⟨gc.pn, fun q hq => (List.mem_append.mp hq).elim (fun z => gc.ip q z) fun z => fpS _ (of_pinsAt z).1, gc.apart, (gl _).over, (gl _).split, (gl _).guard, rfl⟩
        have again : ∀ {ys' : List V} {σ7 : L2.St} {H7 : Hp} {s7 : Shared} {n' : Nat} {s₀' : Shared}, n' + ys'.length = sizeLine → GI X S (ip ++ pinsAt fp s5.heap) ys' σ7 H7 s7 → N ys' σ7 H7 → Seg (model X.prog X.w) A R (GY X S) n' s₀' (.forLoop tg (.ref it) body [] X.env) (.pure (.again (.forLoop tg (.ref it) body [] X.env)))
            (.ret (fun r => ((match r with | .ok f => (.pure f : Sem Flow) | .error e => .raise e).onRaise (cameBack X.env)).wrap K J gd lv) none (gd false) (lv []) c p [] :: fs) s7 := by
          intro ys' σ7 H7 s7 n' s₀' hn' g7 n7
          obtain ⟨m', hm, w7⟩ := hN ys' σ7 H7 n7
          obtain ⟨acc7, cc7, r7, I7⟩ := g7
          have pin : ∀ b ∈ fp, ∀ o, s5.heap.get? b = some o → s7.heap.get? b = some o ∧ H7 b = none := fun b hb o e => by
            have := I7.pin (b, o) (List.mem_append_right _ (List.mem_cons_of_mem _ (List.mem_append_right _ (mem_pinsAt hb e))))
            exact ⟨this.1, this.2.1⟩
          refine seg_again rfl (ih m' hm (i + 1) n' ys' s₀' s7 σ7 H7 hn' w7 ⟨acc7, cc7, r7, I7.pins_of fun q hq => ?_⟩ (T.keep _ _ _ st5 fun b hb o e => (pin b hb o e).1) fun b hb => ?_)
          · rcases List.mem_cons.mp hq with hq | hq
            · rw [hq]; exact I7.pin _ (List.mem_append_right _ List.mem_cons_self)
            · exact I7.pin q (List.mem_append_right _ (List.mem_cons_of_mem _ (List.mem_append_left _ hq)))
          · obtain ⟨o, e, d⟩ := T.obj _ _ st5 b hb
            exact (pin b hb o e).2
        have unpin : ∀ {ys' : List V} {σ7 : L2.St} {H7 : Hp} {s7 : Shared}, GI X S (ip ++ pinsAt fp s5.heap) ys' σ7 H7 s7 → GI X S ip ys' σ7 H7 s7 := by
          rintro ys' σ7 H7 s7 ⟨acc7, cc7, r7, I7⟩
          refine ⟨acc7, cc7, r7, I7.pins_of fun q hq => ?_⟩
          rcases List.mem_cons.mp hq with hq | hq
          · rw [hq]; exact I7.pin _ (List.mem_append_right _ List.mem_cons_self)
          · exact I7.pin q (List.mem_append_right _ (List.mem_cons_of_mem _ (List.mem_append_left _ hq)))
        refine hb.run A S (ip ++ pinsAt fp s5.heap) R n ys s₀ _ _ _ _ id id s6 σ6 H6 { D with nx := N, ct := N, bk := D.nx } gl' hn ⟨fun n' ys' s₀' s7 f hn' hs => ?_, fun n' s₀' x s7 hx => ee n' s₀' x s7 hx⟩ ⟨acc1, cc1, r1, I6⟩ q6
        cases f with
        | next =>
          obtain ⟨σ7, H7, I7, n7⟩ := hs
          exact again hn' I7 n7
        | cont =>
          obtain ⟨σ7, H7, I7, n7⟩ := hs
          exact again hn' I7 n7
        | brk =>
          obtain ⟨σ7, H7, I7, q7⟩ := hs
          exact seg_leaf (.ok .next) (k.ok n' ys' s₀' s7 .next hn' ⟨σ7, H7, unpin I7, q7⟩)
        | ret v =>
          obtain ⟨y, σ7, H7, I7, r7, q7⟩ := hs
          exact seg_leaf (.ok (.ret v)) (k.ok n' ys' s₀' s7 (.ret v) hn' ⟨y, σ7, H7, unpin I7, r7, q7⟩)
  exact loop m0 0 n ys s₀ s2 σ H2 hn w0 ⟨acc, cc, r, I2⟩ st2 fun b hb => (f2 b hb).1
end
end S
namespace S
open PySem PySem.Spec PyProof.Rows L2 GenW
/-- named rests of a generator's body -/
def gstop (t : TGn) : TGn := fun D ys σ H => Stop (fun _ σ H => t D ys σ H) { nx := fun _ _ => True, rt := fun _ _ => True } σ H
theorem gss_stop {X : Cx} {st : List Stmt} {t : TGn} (h : GSs X st t) : GSs X st (gstop t) := ⟨fun A S ip R n ys s₀ c fs K J gd lv s σ H D g hn k hI ht => h.run A S ip R n ys s₀ c fs K J gd lv s σ H D g hn k hI ht.go⟩
theorem gss_one {X : Cx} {st : Stmt} {t : TGn} (h : GS X st t) : GSs X [st] t := by
  have h2 := gss_cons h (gss_nil (X := X))
  exact ⟨fun A S ip R n ys s₀ c fs K J gd lv s σ H D g hn k hI ht => h2.run A S ip R n ys s₀ c fs K J gd lv s σ H D g hn k hI ht⟩
def tGIf (c : TT) (t u : TGn) : TGn := fun D ys σ H => c σ H fun b H1 => bIf b (t D ys σ H1) (u D ys σ H1)
theorem gs_if {X : Cx} {test : Expr} {body orelse : List Stmt} {pos : Pos} {c : TT} {t u : TGn} (hc : PT X test c) (ha : GSs X body t) (hb : GSs X orelse u) : GS X (.If test body orelse pos) (tGIf c t u) := by
  refine ⟨fun A S ip R n ys s₀ cd fs K J gd lv s σ H D g hn k hI ht => ?_⟩
  obtain ⟨acc, cc, r, I⟩ := hI
  show Seg _ _ _ _ _ _ _ ((do standAt pos; if ← isTrue test X.env (eval test X.env) then execs body X.env else execs orelse X.env : Sem Flow).wrap K J gd lv) _ _
  refine seg_bind_wrap (wpAny_standAt ?_)
  refine seg_bind_wrap ?_
  rw [g.over]
  refine wpAny_mono (hc.run _ s σ H _ I ht) (fun b s' hb' => ?_) fun x s' hx => k.exc n s₀ x s' hx
  obtain ⟨H2, I2, q2⟩ := hb'
  cases b with
  | true =>
    rw [if_pos rfl]
    exact ha.run A S ip R n ys s₀ cd fs K J gd lv s' σ H2 D g hn k ⟨acc, cc, r, I2⟩ q2
  | false =>
    rw [if_neg Bool.false_ne_true]
    exact hb.run A S ip R n ys s₀ cd fs K J gd lv s' σ H2 D g hn k ⟨acc, cc, r, I2⟩ q2
/-- what a def that hands out may let out: no StopIteration -/
def EN (K : Frag) (E : XK) : XK := fun cls d H => E cls d H ∧ PySem.W.subIn K cls (.type "StopIteration") = some false
/-- a generator def at an address -/
def GFR (P : Program) (w : World) (K : Frag) (mg : Str → Option Value) (base : Heap) (k : Nat) (f : Addr) (sp : SpG) : Prop :=
  ∀ (A : Around) (outer : List Env) (s : Shared) (H : Hp) (us : List Value) (vs : List V) (Q : List V → Hp → Prop) (E : XK), Room k A → Env0 P w K mg base A outer s H → Vals vs us → sp vs H Q E →
    codeAny (model P w) A (.call (.ref f) ⟨us, []⟩) (fun r s' => match r with | .ok (.ret u) => GMade P w k outer H s [] Q E u s' | _ => False) s
structure GFK (P : Program) (w : World) (K : Frag) (mg : Str → Option Value) (base : Heap) (k : Nat) (f : Addr) (n : Nat) (ks : List Str) (sp : SpG) (gV : List V → List V → List V) : Prop where
  ex : ∃ (fd : FuncData) (ps : List Str) (g : List Value → List Value → List Value), GFn P w K mg base k f fd ps sp ∧ KBn K fd ps n ks g gV
def spDG (sp : SpG) (dvs : List V) : SpG := fun vs H Q E => sp (vs ++ dvs) H Q E
abbrev cxG (P : Program) (w : World) (K : Frag) (mg : Str → Option Value) (base : Heap) (N : List Str) (qual : Str) (scope : Scope) (f : Addr) (cd : Value) (A : Around) (outer : List Env) (s : Shared) (H : Hp) (E : XK) (pn : List (Addr × Obj)) : Cx := gcxOf P w K mg base N qual scope f cd A outer s H E pn
section
variable {P : Program} {w : World} {K : Frag} {mg : Str → Option Value} {base : Heap} {x qual : Str} {params : Arguments} {body : List Stmt} {scope : Scope} {dvs : List V} {kws : List (Str × V)} {f : Addr} {fd : FuncData}
theorem FunD.gok {N ps : List Str} {k : Nat} {sp : SpG} (F : FunD K x qual params body scope dvs kws f fd) (S : GScope N ps scope) (len : ∀ vs H Q E, sp vs H Q E → vs.length = ps.length)
    {t : XK → TGn} (hbody : ∀ (cdv : Value) (A : Around) (outer : List Env) (s : Shared) (H : Hp) (E : XK) (pn : List (Addr × Obj)), Room k (A.deeper (envOfC qual scope s.heap.objs.size f cdv)) → GSs (cxG P w K mg base N qual scope f cdv A outer s H E pn) body (t E))
    (pure : ∀ vs H Q E, sp vs H Q E → t E { nx := fun ys _ H' => Q ys H', rt := fun ys v H' => v = .non ∧ Q ys H' } [] (start N vs) H) : GFn P w K mg base (k + 1) f fd ps sp := by
  obtain ⟨oc, od, dV, kV, doc, pm, an, cdv, ct, osl, rfl, lk, hcd, _, _⟩ := F.ex
  exact gfn_of lk hcd S len fun A outer s H vs Q E pn hr hsp => ⟨t E, hbody cdv A outer s H E pn hr, pure vs H Q E hsp⟩
theorem GFn.raw {k : Nat} {sp : SpG} {ps : List Str} {ds : List Value} {ex : List V} (F : GFn P w K mg base k f fd ps sp) (hb : Binds K fd ps ds) (hd : Vals ex ds) : GFR P w K mg base k f (spDG sp ex) := by
  intro A outer s H us vs Q E hr e0 r h
  have r2 : Vals (vs ++ ex) (us ++ ds) := r.append hd
  have hl2 : (us ++ ds).length = ps.length := by rw [← r2.length]; exact F.len _ _ _ _ h
  exact F.run A outer s H ⟨us, []⟩ (us ++ ds) (vs ++ ex) Q E hr e0 (hb s us (e0.mod.kin.keeps fun b o e => (e0.bs b o e).1) hl2) r2 h
theorem mk_gfn {N ps : List Str} {k : Nat} {sp : SpG} {ex : List V} (F : FunD K x qual params body scope dvs kws f fd) (S : GScope N ps scope) (len : ∀ vs H Q E, sp vs H Q E → vs.length = ps.length) (hb : ∃ ds, Vals ex ds ∧ Binds K fd ps ds)
    {t : XK → TGn} (hbody : ∀ (cdv : Value) (A : Around) (outer : List Env) (s : Shared) (H : Hp) (E : XK) (pn : List (Addr × Obj)), Room k (A.deeper (envOfC qual scope s.heap.objs.size f cdv)) → GSs (cxG P w K mg base N qual scope f cdv A outer s H E pn) body (t E))
    (pure : ∀ vs H Q E, sp vs H Q E → t E { nx := fun ys _ H' => Q ys H', rt := fun ys v H' => v = .non ∧ Q ys H' } [] (start N vs) H) : GFR P w K mg base (k + 1) f (spDG sp ex) := by
  obtain ⟨ds, hv, hb⟩ := hb
  exact GFn.raw (FunD.gok (P := P) (w := w) (mg := mg) (base := base) F S len hbody pure) hb hv
theorem spDG_nil {k : Nat} {sp : SpG} (F : GFR P w K mg base k f (spDG sp [])) : GFR P w K mg base k f sp := fun A outer s H us vs Q E hr e0 r h => F A outer s H us vs Q E hr e0 r (by show sp (vs ++ []) H Q E; rw [List.append_nil]; exact h)
theorem mk_gfnK {N ps ks : List Str} {k n : Nat} {sp : SpG} {gV : List V → List V → List V} (F : FunD K x qual params body scope dvs kws f fd) (S : GScope N ps scope) (len : ∀ vs H Q E, sp vs H Q E → vs.length = ps.length) (hb : ∃ g, KBn K fd ps n ks g gV)
    {t : XK → TGn} (hbody : ∀ (cdv : Value) (A : Around) (outer : List Env) (s : Shared) (H : Hp) (E : XK) (pn : List (Addr × Obj)), Room k (A.deeper (envOfC qual scope s.heap.objs.size f cdv)) → GSs (cxG P w K mg base N qual scope f cdv A outer s H E pn) body (t E))
    (pure : ∀ vs H Q E, sp vs H Q E → t E { nx := fun ys _ H' => Q ys H', rt := fun ys v H' => v = .non ∧ Q ys H' } [] (start N vs) H) : GFK P w K mg base (k + 1) f n ks sp gV := by
  obtain ⟨g, hb⟩ := hb
  exact ⟨fd, ps, g, FunD.gok (P := P) (w := w) (mg := mg) (base := base) F S len hbody pure, hb⟩
end
theorem passG {P : Program} {w : World} {K : Frag} {mg : Str → Option Value} {base : Heap} {N : List Str} {qual : Str} {scope : Scope} {f : Addr} {cd : Value} {A : Around} {outer : List Env} {s : Shared} {H : Hp} {E : XK} {pn : List (Addr × Obj)} :
    ∀ σ, PassesAt (L2.CX P w) (cxG P w K mg base N qual scope f cd A outer s H E pn) σ (EW E σ) := fun σ => passAt takes_gcx σ
theorem ownG {P : Program} {w : World} {K : Frag} {mg : Str → Option Value} {base : Heap} {N : List Str} {qual : Str} {scope : Scope} {f : Addr} {cd : Value} {A : Around} {outer : List Env} {s : Shared} {H : Hp} {E : XK} {pn : List (Addr × Obj)} :
    PassesOwn (model P w) (cxG P w K mg base N qual scope f cd A outer s H E pn).A (cxG P w K mg base N qual scope f cd A outer s H E pn).env (cxG P w K mg base N qual scope f cd A outer s H E pn).xe := owns_gcx
/-! ### generators as values -/
abbrev TGenE := XK → TGen
section
variable {X : Cx} {k n : Nat} {f g : Addr} {sp : SpG} {x c m : Str} {p pos pos' apos : Pos} {e o : Expr} {es : List Expr} {t tk : TA} {ta : TE} {gV : List V → List V → List V} {ks : List Str} {kws : List Keyword}
structure PGenE (X : Cx) (k : Nat) (e : Expr) (tg : TGenE) : Prop where
  run : ∀ E, PGen X k e (tg E) E
theorem run_gfr {pins : List (Addr × Obj)} {σ : L2.St} {H : Hp} {s : Shared} {us : List Value} {vs : List V} {cont : List V → Hp → Prop} {E : XK} {E1 : Value → Shared → Prop} (F : GFR X.prog X.w X.K X.mg X.base k f sp) (hr : Room k X.A)
    (I : Inv X pins σ H s) (r : Vals vs us) (h : sp vs H cont E) :
    wpAny (model X.prog X.w) X.A (call (.ref f) us) (fun u s' => ∃ H1 sc ex, Inv X pins σ H1 sc ∧ ExOk X pins ex ∧ GMade X.prog X.w k X.stack H1 sc ex cont E u s') E1 s := by
  refine wpAny_call (codeAny_mono (F X.A X.stack s H us vs cont E hr I.env0 r h) fun r s' hq => ?_)
  cases r with
  | error e => exact False.elim hq
  | ok fl =>
    cases fl with
    | ret u => exact ⟨H, s, [], I, .nil, hq⟩
    | next => exact False.elim hq
    | brk => exact False.elim hq
    | cont => exact False.elim hq
/-- o.m(), o an instance with slots -/
def tMethGS (K : Frag) (c : Str) (sp : SpG) (ta : TE) : TGenE := fun E σ H cont => ta σ H fun x H1 => match x with
  | .ref a => IsO K H1 c a (sp [.ref a] H1 cont E)
  | _ => False
theorem pgen_methS0 {pl : Sem Bool} (hc : SlX.SCls X.K (He.ga X.K c)) (hm : Meth X.K (He.ga X.K c) m g) (F : GFR X.prog X.w X.K X.mg X.base k g sp) (hr : Room k X.A) (he : PE X o ta)
    (ht : eval (.Call (.Attribute o m apos) [] [] pos) X.env = (do
      let ov ← eval o X.env
      standAt apos.atName
      let (f, first) ← holding [ov] (getMethod ov m pl)
      callWith pos f first (backTo pos (starEach [] X.env)) (backToKw pos (keywordEach [] X.env))) := by rfl) :
    PGenE X k (.Call (.Attribute o m apos) [] [] pos) (tMethGS X.K c sp ta) := by
  refine ⟨fun E => ⟨fun pins s σ H cont I h => ?_⟩⟩
  refine PySem.W.methodCall_KW (pl := pl) (thn (he.run pins s σ H _ I h) fun u s1 ⟨x, H1, I1, rx, q⟩ => ?_) ht
  cases x <;> try exact q.elim
  cases rx
  obtain ⟨⟨dx, vs, hsl⟩, q⟩ := q
  refine SlX.getmethsl_ok I1 hsl hc hm ?_
  exact PySem.W.callWith_K0 (first := [.ref _]) I1.kIn hm.kp (run_gfr (us := [.ref _]) (vs := [.ref _]) F hr I1 (.cons rfl .nil) q)
/-- f(e, ..) -/
def tCallGE (sp : SpG) (t : TA) : TGenE := fun E σ H cont => t σ H fun vs H1 => sp vs H1 cont E
theorem pgen_callR (F : GFR X.prog X.w X.K X.mg X.base k f sp) (hr : Room k X.A) (hm : X.mg x = some (.ref f)) (hk : PySem.W.keepIn X.K (.ref f) = true) (ha : PA X (e :: es) t) (hg : Gl X x := by rfl) (hdb : (x == ("__debug__" : Str)) = false := by decide)
    (he : starEach (e :: es) X.env = (false, eval e X.env) :: starEach es X.env := by rfl) (hpl : (backTo pos' (starEach es X.env)).any (·.1) = false := by rfl) :
    PGenE X k (.Call (.Name x p) (e :: es) [] pos') (tCallGE sp t) := by
  refine ⟨fun E => ⟨fun pins s σ H cont I h => ?_⟩⟩
  refine wpAny_Call_Name_kw (ld_glob I hg hm ?_ hdb)
  refine PySem.W.callWith_K (h₀ := X.base) I.ok.mod.kin hk (thn (ha.run pos' pins s σ H _ I h) fun us s1 ⟨vs, H1, I1, r, q⟩ => ⟨I1.kIn, ?_⟩) he hpl
  exact run_gfr F hr I1 r q
/-- list(g), what it may raise wished for at the caller's slots -/
def tListGE (K : Frag) (tg : TGenE) (E : L2.St → XK) : TE := fun σ H Q => tg (EN K (E σ)) σ H fun out H2 => ∀ p, H2 p = none → Q (.ref p) (upd H2 p (.lst out))
theorem pe_listGE {nm : Str} {tg : TGenE} {E : L2.St → XK} (h : PGenE X k e tg) (hx : ∀ σ, PassesAt (L2.CX X.prog X.w) X σ (E σ)) (hr : Room (k + 3) X.A) (hmg : X.mg nm = none) (hv : bootBuiltins nm = some (.type "list")) (hg : Gl X nm := by rfl) (hnm : nm ≠ "__name__" := by decide) (hdb : (nm == ("__debug__" : Str)) = false := by decide)
    (he : starEach [e] X.env = (false, eval e X.env) :: starEach [] X.env := by rfl) : PE X (.Call (.Name nm p) [e] [] pos) (tListGE X.K tg E) := by
  refine ⟨fun pins s σ H Q I hq => ?_⟩
  refine wpAny_Call_Name_kw (ld_blt I hg hmg hv ?_ hnm hdb)
  refine PyProof.Rows.callWith_type1 ?_ he rfl
  rw [he]
  show wpAny _ _ (spliced ((false, eval e X.env) :: backTo pos (starEach [] X.env))) _ _ s
  refine Calls.spliced_cons (thn ((h.run (EN X.K (E σ))).run pins s σ H _ I hq) fun u s1 ⟨H1, sc, ex, I1, hex, hG⟩ => ?_)
  refine Calls.spliced_nil ?_
  have hsz : sc.heap.objs.size ≤ s1.heap.objs.size := by
    obtain ⟨a, g, c, _, h1, h2, _⟩ := hG
    exact Nat.le_trans h1 (Nat.le_of_lt h2)
  refine call_list_new hr I1.ok.frames hG (fun S s' acc c H' ys q0 q1 q2 hl q3 q4 q5 q6 q7 q8 => ?_) fun e s' g hc => ?_
  · exact ⟨.ref S, upd H' S (.lst ys), I1.drained (Nat.le_trans hsz q0) hl q1 q2 hex q3 q4 q5 q6 q7, rfl, q8 S q7⟩
  · have kin : X.K.In s'.heap := by
      obtain ⟨a, B, H', cls, d, _, fl, _, ub, _⟩ := id hc
      refine I1.ok.mod.kin.keeps fun b o eb => fl.1 b o (ub.keep b o (I1.bs b o eb).1 (I1.bs b o eb).2 fun hm => ?_)
      rcases List.mem_cons.mp (I1.stkSub b hm) with z | z
      · have h1 := Heap.lt_size eb
        have h2 := Nat.le_trans I1.ok.bsz I1.ok.above
        rw [z] at h1
        exact absurd (Nat.lt_of_lt_of_le h1 h2) (Nat.lt_irrefl _)
      · exact I1.ok.nofr eb z
    refine ⟨notStop_of (fun _ _ _ z => z.2) kin hc, hx σ pins H1 sc e _ I1 ?_⟩
    obtain ⟨a, B, H', cls, d, z1, fl, z2, ub, z3, z4, z5, z6⟩ := hc
    exact ⟨a, B, H', cls, d, z1, fl, z2, ub, z3, z4, allBare_setGen z5 rfl, z6.1⟩
end
end S
namespace S
open PySem PySem.Spec PyProof.Rows L2
def GLoopR (D : GEnds) (ys : List V) (g : TG) (tb : TGn) (σ : L2.St) : It → Hp → Prop := fun J H1 => ∃ W : Nat → Nat → List V → L2.St → Hp → Prop, (∃ m, W 0 m ys σ H1) ∧ ∀ i m ys σ H, W i m ys σ H →
  (J.stop i H ∧ D.nx ys σ H) ∨ (J.go i H ∧ ∃ N : List V → L2.St → Hp → Prop, (∀ ys' σ' H', N ys' σ' H' → ∃ m', m' < m ∧ W (i + 1) m' ys' σ' H') ∧ ∀ x H', J.yld i H x H' → g x σ H' fun σ2 H2 => tb { D with nx := N, ct := N, bk := D.nx } ys σ2 H2)
def dGFor (wi : TI) (g : TG) (tb : TGn) : TGn := fun D ys σ H => wi σ H (GLoopR D ys g tb σ)
theorem gs_dfor {X : Cx} {tg iter : Expr} {body : List Stmt} {wi : TI} {g : TG} {tb : TGn} {pos : Pos} (hp : PassesOwn (model X.prog X.w) X.A X.env X.xe) (hc : X.calm = true) (hi : PI X tg iter wi) (hg : PG X tg g) (hb : GSs X body tb)
    (hs : ∀ x, foldedSetIterable iter X.env x = pure x := by intro _; rfl) : GS X (.For tg iter body [] pos) (dGFor wi g tb) := gs_for hp hc hi hg hb hs
section
variable {K : Frag} {a b : Addr} {xs zs : List V} {g : TG} {tb : TGn} {D : GEnds} {ys : List V} {σ : L2.St} {H : Hp}
theorem gfor_list (Pv : Nat → List V → L2.St → Hp → Prop) (h0 : Pv 0 ys σ H) (hl : ∀ i ys σ H, i ≤ xs.length → Pv i ys σ H → SqL K H a xs)
    (hs : ∀ i x ys σ H, xs[i]? = some x → Pv i ys σ H → g x σ H fun σ2 H2 => tb { D with nx := Pv (i + 1), ct := Pv (i + 1), bk := D.nx } ys σ2 H2) (hd : ∀ ys σ H, Pv xs.length ys σ H → D.nx ys σ H) : GLoopR D ys g tb σ (Itl K a) H := by
  refine ⟨fun i m ys σ H => m = xs.length - i ∧ i ≤ xs.length ∧ Pv i ys σ H, ⟨xs.length, by simp, Nat.zero_le _, h0⟩, ?_⟩
  rintro i m ys σ H ⟨rfl, hi, p⟩
  have q := hl i ys σ H hi p
  by_cases hlt : i < xs.length
  · refine .inr ⟨⟨xs, xs[i], q, by simp [hlt]⟩, Pv (i + 1), fun ys' σ' H' p' => ⟨xs.length - (i + 1), by omega, rfl, hlt, p'⟩, fun x H' y => ?_⟩
    obtain ⟨e, y⟩ := y
    subst e
    exact hs i x ys σ _ (y xs q) p
  · have e : i = xs.length := by omega
    subst e
    exact .inl ⟨⟨xs, q, Nat.le_refl _⟩, hd ys σ H p⟩
theorem gfor_tup (Pv : Nat → List V → L2.St → Hp → Prop) (h0 : Pv 0 ys σ H) (hl : ∀ i ys σ H, i ≤ xs.length → Pv i ys σ H → SqT K H a xs)
    (hs : ∀ i x ys σ H, xs[i]? = some x → Pv i ys σ H → g x σ H fun σ2 H2 => tb { D with nx := Pv (i + 1), ct := Pv (i + 1), bk := D.nx } ys σ2 H2) (hd : ∀ ys σ H, Pv xs.length ys σ H → D.nx ys σ H) : GLoopR D ys g tb σ (Itt K a) H := by
  refine ⟨fun i m ys σ H => m = xs.length - i ∧ i ≤ xs.length ∧ Pv i ys σ H, ⟨xs.length, by simp, Nat.zero_le _, h0⟩, ?_⟩
  rintro i m ys σ H ⟨rfl, hi, p⟩
  have q := hl i ys σ H hi p
  by_cases hlt : i < xs.length
  · refine .inr ⟨⟨xs, xs[i], q, by simp [hlt]⟩, Pv (i + 1), fun ys' σ' H' p' => ⟨xs.length - (i + 1), by omega, rfl, hlt, p'⟩, fun x H' y => ?_⟩
    obtain ⟨e, y⟩ := y
    subst e
    exact hs i x ys σ _ (y xs q) p
  · have e : i = xs.length := by omega
    subst e
    exact .inl ⟨⟨xs, q, Nat.le_refl _⟩, hd ys σ H p⟩
theorem gfor_seq (Pv : Nat → List V → L2.St → Hp → Prop) (hx : SqA K H a xs) (h0 : Pv 0 ys σ H) (hl : ∀ i ys σ H', i ≤ xs.length → Pv i ys σ H' → Stay K a H H')
    (hs : ∀ i x ys σ H, xs[i]? = some x → Pv i ys σ H → g x σ H fun σ2 H2 => tb { D with nx := Pv (i + 1), ct := Pv (i + 1), bk := D.nx } ys σ2 H2) (hd : ∀ ys σ H, Pv xs.length ys σ H → D.nx ys σ H) : Walk K H a (GLoopR D ys g tb σ) := by
  rcases hx with hx | hx
  · exact ⟨.inl ⟨⟨xs, hx⟩, gfor_list Pv h0 (fun i ys σ H' hi q => (hl i ys σ H' hi q xs).1 hx) hs hd⟩⟩
  · exact ⟨.inr ⟨⟨xs, hx⟩, gfor_tup Pv h0 (fun i ys σ H' hi q => (hl i ys σ H' hi q xs).2 hx) hs hd⟩⟩
/-- zip of two lists of one length -/
theorem gfor_zip (hl : xs.length = zs.length) (Pv : Nat → List V → L2.St → Hp → Prop) (h0 : Pv 0 ys σ H) (hq : ∀ i ys σ H, Pv i ys σ H → SqL K H a xs ∧ SqL K H b zs)
    (hs : ∀ (i : Nat) (x y : V) (T : Addr) (ys : List V) (σ : L2.St) (H : Hp), xs[i]? = some x → zs[i]? = some y → Pv i ys σ H → H T = none → g (.ref T) σ (upd H T (.tup [x, y])) fun σ2 H2 => tb { D with nx := Pv (i + 1), ct := Pv (i + 1), bk := D.nx } ys σ2 H2)
    (hd : ∀ ys σ H, Pv xs.length ys σ H → D.nx ys σ H) : GLoopR D ys g tb σ (Itz K a b) H := by
  refine ⟨fun i m ys σ H => m = xs.length - i ∧ i ≤ xs.length ∧ Pv i ys σ H, ⟨xs.length, rfl, Nat.zero_le _, h0⟩, ?_⟩
  rintro i m ys σ H ⟨rfl, hi, p⟩
  obtain ⟨qx, qy⟩ := hq i ys σ H p
  by_cases hlt : i < xs.length
  · have hx : xs[i]? = some xs[i] := List.getElem?_eq_getElem hlt
    have hlt2 : i < zs.length := by omega
    have hy : zs[i]? = some zs[i] := List.getElem?_eq_getElem hlt2
    refine .inr ⟨⟨xs, zs, _, _, qx, qy, hx, hy⟩, Pv (i + 1), fun ys' σ' H' p' => ⟨xs.length - (i + 1), by omega, rfl, hlt, p'⟩, fun v H' y => ?_⟩
    obtain ⟨T, x', y', rfl, hT, rfl, f1, f2⟩ := y
    exact hs i x' y' T ys σ H (f1 xs qx) (f2 zs qy) p hT
  · have e : i = xs.length := by omega
    subst e
    exact .inl ⟨⟨xs, zs, qx, qy, Or.inl (Nat.le_refl _)⟩, hd ys σ H p⟩
/-- one for zips outside of generators -/
theorem for_zip {tb : TS} {D : L2.Ends} (hl : xs.length = zs.length) (Pv : Nat → L2.St → Hp → Prop) (h0 : Pv 0 σ H) (hq : ∀ i σ H, Pv i σ H → SqL K H a xs ∧ SqL K H b zs)
    (hs : ∀ (i : Nat) (x y : V) (T : Addr) (σ : L2.St) (H : Hp), xs[i]? = some x → zs[i]? = some y → Pv i σ H → H T = none → g (.ref T) σ (upd H T (.tup [x, y])) fun σ2 H2 => tb { D with nx := Pv (i + 1), ct := Pv (i + 1), bk := D.nx } σ2 H2) (hd : ∀ σ H, Pv xs.length σ H → D.nx σ H) : LoopR D g tb σ (Itz K a b) H :=
  RZ.for_zipL hl Pv h0 hq hs hd
end
/-! ### a < b < c < d as a test -/
def dChain3T (r r' r'' : R2) (ta tb tc td : TE) : TT := fun σ H Q => ta σ H fun x H1 => tb σ H1 fun y H2 => r x y H2 (isB fun k H3 => bIf k (tc σ H3 fun z H4 => r' y z H4 (isB fun k2 H5 => bIf k2 (td σ H5 fun w' H6 => r'' z w' H6 (isB Q)) (Q false H5))) (Q false H3))
theorem pt_chain3 {X : Cx} {op op' op'' : CmpOp} {a b c d : Expr} {r r' r'' : R2} {ta tb tc td : TE} {pos : Pos} (ho : OpR X (compareOp op) r) (ho' : OpR X (compareOp op') r') (ho'' : OpR X (compareOp op'') r'') (ha : PE X a ta) (hb : PE X b tb) (hc : PE X c tc) (hd : PE X d td)
    (hm : lastMarks [op, op', op''] [b, c, d] = false := by with_unfolding_all rfl) : PT X (.Compare a [op, op', op''] [b, c, d] pos) (dChain3T r r' r'' ta tb tc td) := by
  refine ⟨fun pins s σ H Q I h => ?_⟩
  refine isTrue_chain (thn (ha.run pins s σ H _ I h) fun v s1 ⟨x, H1, I1, r1, q1⟩ => test_link (thn (hb.run pins s1 σ H1 _ I1 q1) fun u s2 ⟨y, H2, I2, r2, q2⟩ =>
    thn (ho pins s2 σ H2 x y v u _ I2 r1 r2 q2) fun d s3 ⟨z, H3, I3, r3, q3⟩ => ?_)) hm
  obtain ⟨k, e, q3⟩ := isB_ex q3
  subst e
  cases r3
  refine wpAny_truthy_bool ?_
  cases k with
  | false => exact ite_ff ⟨H3, I3, q3⟩
  | true =>
    refine ite_tt (test_link (thn (hc.run pins s3 σ H3 _ I3 q3) fun w' s4 ⟨z', H4, I4, r4, q4⟩ => thn (ho' pins s4 σ H4 y z' u w' _ I4 r2 r4 q4) fun d' s5 ⟨z2, H5, I5, r5, q5⟩ => ?_))
    obtain ⟨k2, e2, q5⟩ := isB_ex q5
    subst e2
    cases r5
    refine wpAny_truthy_bool ?_
    cases k2 with
    | false => exact ite_ff ⟨H5, I5, q5⟩
    | true =>
      refine ite_tt (test_last (thn (hd.run pins s5 σ H5 _ I5 q5) fun w2 s6 ⟨z6, H6, I6, r6, q6⟩ => thn (ho'' pins s6 σ H6 z' z6 w' w2 _ I6 r4 r6 q6) fun d2 s7 ⟨z7, H7, I7, r7, q7⟩ => ?_))
      obtain ⟨k3, e3, q7⟩ := isB_ex q7
      subst e3
      cases r7
      exact wpAny_truthy_bool ⟨H7, I7, q7⟩
end S
namespace S
open PySem PySem.Spec PyProof.Rows L2
set_option maxRecDepth 8000 in
theorem extend_tupA (l : Addr) (items : Array Value) (n : Nat) (b : Addr) (od : Option Addr) (osl : Array (Option Value)) (items2 : Array Value) (n2 : Nat) (hs0 : ¬(!items.isEmpty && Builtin.List.listTooLong (items.size + items2.size)) = true) (hs1 : items.size ≤ sizeLine) (hs2 : items.size + items2.size ≤ sizeLine + 1) :
    Meets (Builtin.«list.extend» ⟨[.ref l, .ref b], []⟩) (fun _ R s => s.heap.get? l = some { cls := .type "list", dict := none, data := .seq items n, slots := #[] } ∧ s.heap.get? b = some { cls := .type "tuple", dict := od, data := .seq items2 n2, slots := osl } ∧ R (.ok (.ret Value.none)) { s with heap := s.heap.update l (Obj.mapSeq fun x => x ++ items2), toks := s.toks }) :=
  .of_wp fun prog w A R s h => by
    obtain ⟨hp, g, d, tk, os⟩ := s; obtain ⟨hl, hb, h⟩ := h; have f1 := AutoSeq1.idx_int; have f2 := AutoSeq1.sub_tuple_tuple; have f3 := AutoSeq1.sub_list_list; have f4 := AutoSeq1.sub_tuple_list; have f5 := AutoSeq1.sub_list_tuple;
    have hz' : (items ++ items2).size ≤ sizeLine + 1 := by rw [Array.size_append]; exact hs2
    wp_walk using (wpAny_updateSeq hl rfl (hz := hs1) (_hz' := hz')), AutoSeq1.wpAny_loadPart' hl, AutoSeq1.wpAny_loadPart' hb; exact ⟨_, rfl, h⟩
def rExtendT (K : Frag) : V → List V → Hp → VK → Prop := fun x vs H Q => ∃ l b xs zs, x = .ref l ∧ vs = [.ref b] ∧ H l = some (.lst xs) ∧ SqT K H b zs ∧ xs.length + zs.length ≤ sizeLine ∧ Q .non (upd H l (.lst (xs ++ zs)))
theorem mt_extendT {X : Cx} : MtR X "list.extend" (rExtendT X.K) := by
  intro pins s σ H x vs v us Q I rx rv h
  obtain ⟨l, b, xs, zs, rfl, rfl, hH, hB, hz, q⟩ := h
  cases rx
  obtain ⟨u, rfl, ru⟩ := rv.one
  cases ru
  obtain ⟨z, its, n, r, hl, e⟩ := I.lstM hH
  obtain ⟨its2, r2, ⟨o2, e2, hc2, n2, hd2⟩, z2⟩ := I.tuple hB
  obtain ⟨oc, od, odt, osl⟩ := o2
  simp only at hc2 hd2
  subst hc2; subst hd2
  have l1 := r.length
  have l2 := r2.length
  have hsz : its.toArray.size + its2.toArray.size ≤ sizeLine := by rw [List.size_toArray, List.size_toArray]; omega
  have hlong : ¬ (!its.toArray.isEmpty && Builtin.List.listTooLong (its.toArray.size + its2.toArray.size)) = true := by
    rw [notLongL hsz, Bool.and_false]
    exact Bool.false_ne_true
  refine call_meets F.slot_list_extend ⟨_, e, rfl⟩ F.entry_list_extend (F.args_list_extend_2 _ _)
    (extend_tupA l its.toArray n b od osl its2.toArray n2 hlong (by rw [List.size_toArray]; omega) (by omega)) ⟨e, e2, ?_⟩
  refine ⟨.non, _, I.lset (its' := its ++ its2) hH e (by simp) (r.append r2) ?_, rfl, q⟩
  rw [List.length_append]
  omega
/-- the sequence at b is put behind -/
structure ExtA (K : Frag) (H : Hp) (b : Addr) (n : Nat) (k : List V → Prop) : Prop where
  ex : ∃ zs, (H b = some (.lst zs) ∨ SqT K H b zs) ∧ n + zs.length ≤ sizeLine ∧ k zs
theorem ExtA.l {K : Frag} {H : Hp} {b : Addr} {n : Nat} {k : List V → Prop} {zs : List V} (h : H b = some (.lst zs)) (hz : n + zs.length ≤ sizeLine) (q : k zs) : ExtA K H b n k := ⟨zs, .inl h, hz, q⟩
theorem ExtA.t {K : Frag} {H : Hp} {b : Addr} {n : Nat} {k : List V → Prop} {zs : List V} (h : SqT K H b zs) (hz : n + zs.length ≤ sizeLine) (q : k zs) : ExtA K H b n k := ⟨zs, .inr h, hz, q⟩
def mExtA (K : Frag) : M2 := mL fun xs vs H k => match vs with
  | [.ref b] => ExtA K H b xs.length fun zs => k .non (xs ++ zs)
  | _ => False
theorem m_extA {X : Cx} : MtR X "list.extend" (mExtA X.K) := by
  intro pins s σ H x vs v us Q I rx rv q
  cases x <;> try exact q.elim
  match vs, q with
  | [.ref b], ⟨⟨xs, h, ⟨zs, h2, hz, q⟩⟩⟩ =>
    rcases h2 with h2 | h2
    · exact (MtR.of mt_extend fun _ _ _ _ q => q) pins s σ H _ _ v us Q I rx rv ⟨_, b, xs, zs, rfl, rfl, h, h2, hz, q⟩
    · exact mt_extendT pins s σ H _ _ v us Q I rx rv ⟨_, b, xs, zs, rfl, rfl, h, h2, hz, q⟩
/-! ### set(a list of numbers) -/
section
variable {P : Program} {w : World} {A : Around} {E : Value → Shared → Prop} {s : Shared}
/-- what the set holds after i items -/
def GotI (ns : List Int) (i : Nat) (S : Int → Bool) (n : Nat) : Prop := (∀ k, S k = true ↔ k ∈ ns.take i) ∧ n ≤ i
theorem gotI_succ {ns : List Int} {i : Nat} {S : Int → Bool} {n : Nat} {k : Int} (g : GotI ns i S n) (h : ns[i]? = some k) : GotI ns (i + 1) (fun j => S j || decide (j = k)) (if S k = true then n else n + 1) := by
  refine ⟨fun j => ?_, ?_⟩
  · rw [List.take_succ, h, List.mem_append, ← g.1 j, Bool.or_eq_true, decide_eq_true_eq]
    show _ ↔ _ ∨ j ∈ [k]
    rw [List.mem_singleton]
  · have := g.2
    split <;> omega
theorem set_update_ints {I : Addr} {fp wr : List Addr} {G : Array GenState → Array GenState → Prop} {n : Nat} {Pv : Nat → Value → Prop} {St : Nat → Shared → Prop} {R : Result → Shared → Prop}
    (W : WalksS P w A.in1 I fp wr G n Pv St) (S : Addr) (hSf : S ∉ fp) (ns : List Int) (hn : n = ns.length) (hfew : ns.length + 1 < scanBound) (hval : ∀ i v, Pv i v → ∃ k t, ns[i]? = some k ∧ v = .int k t)
    (h0 : Heap) (hS0 : h0.get? S = none) (hw0 : ∀ b ∈ wr, h0.get? b = none) :
    ∀ (k i : Nat) (s : Shared), n - i = k → i ≤ n → St i s → (∀ b o, h0.get? b = some o → s.heap.get? b = some o) → (∃ T m, SetR w s.heap S T m ∧ GotI ns i T m) →
      (∀ s' T m, Moved (S :: wr) G s s' → SetR w s'.heap S T m → GotI ns n T m → (∀ b o, h0.get? b = some o → s'.heap.get? b = some o) → R (.ok (.ret .none)) s') →
      codeAny (model P w) A (.builtin "set.update.loop" ⟨[.ref S, .ref I], []⟩) R s := by
  have hSw : S ∉ wr := fun h => hSf (W.sub _ h)
  have hsub : ∀ b ∈ wr, b ∈ S :: wr := fun b hb => List.mem_cons_of_mem _ hb
  have keepM : ∀ {s s' : Shared}, Moved wr G s s' → (∀ b o, h0.get? b = some o → s.heap.get? b = some o) → ∀ b o, h0.get? b = some o → s'.heap.get? b = some o := fun hm hkp b o e =>
    hm.heap b o (fun hb => by rw [hw0 b hb] at e; cases e) (hkp b o e)
  intro k
  induction k with
  | zero =>
    intro i s hk' hi hst hkp ⟨T, m, hS, g⟩ hR
    have hin : i = n := by omega
    subst hin
    refine codeAny_builtin F.entry_set_update_loop ?_
    rw [Around.under_plainId F.plain_set_update_loop _]
    show wpAny _ A.in1 (pyNext (.ref I) >>= _) _ _ s
    refine wpAny_bind (W.done s _ _ hst fun s' hm => ?_)
    show wpAny _ A.in1 (ret Value.none) _ _ s'
    have hkp' := keepM hm hkp
    exact wpAny_pure (hR s' T m (hm.mono hsub) (hS.at fun o e => hm.heap S o hSw e) g hkp')
  | succ k ih =>
    intro i s hk' hi hst hkp ⟨T, m, hS, g⟩ hR
    have hlt : i < n := by omega
    refine codeAny_builtin F.entry_set_update_loop ?_
    rw [Around.under_plainId F.plain_set_update_loop _]
    show wpAny _ A.in1 (pyNext (.ref I) >>= _) _ _ s
    refine wpAny_bind (W.item i s _ _ hlt hst fun v s' hP hst' hm => ?_)
    obtain ⟨x, t, hx, rfl⟩ := hval i v hP
    have hkp' := keepM hm hkp
    have hS' : SetR w s'.heap S T m := hS.at fun o e => hm.heap S o hSw e
    show wpAny _ A.in1 (holding [Value.int x t] (setAdd S (.int x t)) >>= _) _ _ s'
    refine wpAny_bind (wpAny_holding ?_)
    unfold setAdd
    refine wpAny_holding ?_
    refine wpAny_bind ((intKind P w).pyHash (k := x) (intKind_is _ _ _ _) ?_)
    refine setR_add_hashed (s := { s' with toks := s'.toks + 1 }) hS' (by have := g.2; omega) fun h' hsb hS2 => ?_
    have g' := gotI_succ g hx
    have hkp2 : ∀ b o, h0.get? b = some o → h'.get? b = some o := fun b o e => (hsb.2 b (fun z => by rw [z, hS0] at e; cases e)).trans (hkp' b o e)
    refine wpAny_pure ⟨plainId_quiet F.plain_set_update_loop _, ih (i + 1) _ (by omega) hlt (W.frame _ s' _ _ hst' (Nat.le_succ _) fun b hb o e => ?_) hkp2 ⟨_, _, hS2, g'⟩ fun s'' T2 m2 hm'' hS'' g'' hkp'' => ?_⟩
    · rw [hsb.2 b (fun h : b = S => hSf (by rw [← h]; exact hb))]; exact e
    · refine hR s'' T2 m2 (Moved.trans W.gtrans ((hm.mono hsub).then_heap (Nat.le_succ _) fun b o hb e => ?_) hm'') hS'' g'' hkp''
      rw [hsb.2 b (fun h : b = S => hb (by rw [h]; exact List.mem_cons_self))]; exact e
set_option maxHeartbeats 8000000 in
theorem call_set_ints {l : Addr} {items : Array Value} (ns : List Int) {Q : Value → Shared → Prop} (hh : A.handled = none) (hl : s.heap.IsList l items) (hit : IntsAre items.toList ns) (hfew : ns.length + 1 < scanBound)
    (h : ∀ (h' : Heap) (tk : Nat) T m, SetR w h' s.heap.objs.size T m → GotI ns ns.length T m → (∀ b o, s.heap.get? b = some o → h'.get? b = some o) → Q (.ref s.heap.objs.size) { s with heap := h', toks := tk }) :
    wpAny (model P w) A (call (.type "set") [.ref l]) Q E s := by
  have hisz : items.size = ns.length := by
    have q := IntsAre.length hit
    rw [Array.length_toList] at q
    exact q
  obtain ⟨c, tl, hmro⟩ := F.called_set.mro
  have hmade := F.called_set.made
  have hsub := F.called_set.sub
  refine wpAny_call (codeAny_of_tree ?_)
  show wpAny _ _ (callAny (.type "set") _) _ _ _
  refine wpAny_pure ⟨Code.quiet_builtin _ (by decide +kernel), codeAny_builtin F.entry_type_call ?_⟩
  rw [Around.under_plain (weight_type_call_type "set" [.ref l] []) rfl]
  have h1 := F.called_set.notType
  have h2 := F.called_set.canCreate
  have hct := F.typeCall_set_1 (.ref l)
  repeat (any_goals (first | assumption | wp_step))

  refine codeAny_mono (code_set_led1 (.ref l) (E := E) (Q₁ := fun obj s₁ => obj = .ref s.heap.objs.size ∧ s₁ = { s with heap := s.heap.push { cls := .type "set", dict := none, data := .set #[] 0 (.fresh 0 0 (!w.params.followText "set-order")) } }) ⟨rfl, rfl⟩) fun r s₁ hr => ?_
  cases r with
  | error e => exact hr
  | ok fl =>
    cases fl with
    | ret obj =>
      obtain ⟨rfl, rfl⟩ := hr
      have hS : (s.heap.push { cls := .type "set", dict := none, data := .set #[] 0 (.fresh 0 0 (!w.params.followText "set-order")) }).get? s.heap.objs.size = some { cls := .type "set", dict := none, data := .set #[] 0 (.fresh 0 0 (!w.params.followText "set-order")) } := Heap.get?_push_size _ rfl
      have hT : Shared.TypeIs { s with heap := s.heap.push { cls := .type "set", dict := none, data := .set #[] 0 (.fresh 0 0 (!w.params.followText "set-order")) } } (.ref s.heap.objs.size) "set" := ⟨_, hS, rfl⟩
      have hli := F.called_set.init.lookup
      have hbi := F.called_set.init.bind (.ref s.heap.objs.size)
      repeat (any_goals (first | assumption | wp_step))

      refine codeAny_mono (codeAny_call_builtin (R := wants (fun r s₂ => r = .none ∧ ∃ h' tk T m, s₂ = { s with heap := h', toks := tk } ∧ SetR w h' s.heap.objs.size T m ∧ GotI ns ns.length T m ∧
          (∀ b o, s.heap.get? b = some o → h'.get? b = some o)) E) F.called_set.init.plain F.entry_set_init (check_set_init_1 hT ?_)) fun r₂ s₂ hr₂ => ?_
      · obtain ⟨ol, hol, hcl, nl, hdl⟩ := hl
        obtain ⟨ocls, odict, odata, oslots⟩ := ol
        simp only at hcl hdl
        subst hcl; subst hdl
        have hol' : (s.heap.push { cls := .type "set", dict := none, data := .set #[] 0 (.fresh 0 0 (!w.params.followText "set-order")) }).get? l = some { cls := .type "list", dict := odict, data := .seq items nl, slots := oslots } := Heap.get?_push_of_some _ hol
        have hsls := F.sub_list_set
        have hslf := F.sub_list_frozenset
        have hne : (Value.type "list" == Value.type "dict") = false := by decide
        have hl1 : (s.heap.push { cls := .type "set", dict := none, data := .set #[] 0 (.fresh 0 0 (!w.params.followText "set-order")) }).IsList l items := ⟨_, hol', rfl, nl, rfl⟩
        unfold Builtin.«set.__init__» noKeywords Builtin.Frozenset.updateFrom
        generalize hPI : pyIter = PI
        wp_walk
        subst hPI

        refine wpAny_pyIter_list hl1 ?_
        refine wpAny_bind (wpAny_runValue ?_)
        have hlS : l < s.heap.objs.size := Heap.lt_size hol
        have hh3 : A.in1.in1.in1.handled = none := by simp [hh]
        have hneI : l ≠ (s.heap.push { cls := .type "set", dict := none, data := .set #[] 0 (.fresh 0 0 (!w.params.followText "set-order")) }).objs.size := by
          rw [Heap.size_push]; exact Nat.ne_of_lt (Nat.lt_succ_of_lt hlS)
        have hSf : s.heap.objs.size ∉ [(s.heap.push { cls := .type "set", dict := none, data := .set #[] 0 (.fresh 0 0 (!w.params.followText "set-order")) }).objs.size, l] := by
          rw [Heap.size_push]; simp only [List.mem_cons, List.mem_singleton, List.not_mem_nil, or_false, not_or]
          exact ⟨Nat.ne_of_lt (Nat.lt_succ_self _), Nat.ne_of_gt hlS⟩
        have hval : ∀ (i : Nat) (v : Value), items[i]? = some v → ∃ k t, ns[i]? = some k ∧ v = .int k t := fun i v hv => by
          have q : items.toList[i]? = some v := by rw [Array.getElem?_toList]; exact hv
          obtain ⟨k, t, e1, e2⟩ := IntsAre.at hit i v q
          exact ⟨k, t, e2, e1⟩
        have none_of : ∀ b, s.heap.objs.size ≤ b → s.heap.get? b = none := fun b hb => by
          cases q : s.heap.get? b with
          | none => rfl
          | some o => exact absurd (Nat.lt_of_lt_of_le (Heap.lt_size q) hb) (Nat.lt_irrefl _)
        refine set_update_ints ((Walks.list hh3 _ l hneI items).toS) s.heap.objs.size
          hSf ns hisz hfew hval s.heap (none_of _ (Nat.le_refl _)) (fun b hb => none_of b (by
            rw [List.mem_singleton.mp hb, Heap.size_push]
            exact Nat.le_succ _)) (items.size - 0) 0 _ (by omega) (Nat.zero_le _)
          ⟨⟨_, Heap.get?_push_size _ rfl, rfl, rfl⟩, (hl1.push _)⟩ (fun b o e => Heap.get?_push_of_some _ (Heap.get?_push_of_some _ e)) ?hS0 ?hR
        case hS0 =>
          exact ⟨_, 0, (setR_fresh (h := s.heap) w).at fun o e => Heap.get?_push_of_some _ e, fun k => by simp, Nat.le_refl _⟩
        case hR =>
          intro s' T m hm hS' g' hkp
          obtain ⟨h', g2, d', tk', os'⟩ := s'
          have eg : g2 = s.gens := hm.gens
          have ed : d' = s.drawn := hm.drawn
          have eo : os' = s.os := hm.os
          subst eg; subst ed; subst eo
          show wpAny _ _ _ _ _ _
          refine wpAny_pure ?_
          show wpAny _ _ (ret Value.none) _ _ _
          rw [hisz] at g'
          exact wpAny_pure ⟨rfl, h', tk', T, m, rfl, hS', g', hkp⟩

      · cases r₂ with
        | error e => exact hr₂
        | ok fl₂ =>
          cases fl₂ with
          | ret r =>
            obtain ⟨rfl, h', tk, T, m, rfl, hS', g', hk'⟩ := hr₂
            repeat (any_goals (first | assumption | wp_step))
            exact h _ _ _ _ hS' g' hk'
          | _ => exact hr₂.elim
    | _ => exact hr.elim
end
section
variable {X : Cx}
theorem nodup_len {α : Type} [DecidableEq α] : ∀ (L D : List α), L.Nodup → (∀ z ∈ L, z ∈ D) → L.length ≤ D.length
  | [], _, _, _ => Nat.zero_le _
  | x :: L, D, hn, hD => by
    have hx := hD x (List.mem_cons_self ..)
    obtain ⟨h1, h2⟩ := List.nodup_cons.mp hn
    have := nodup_len L (D.erase x) h2 fun z hz => (List.mem_erase_of_ne (fun e => h1 (by rw [← e]; exact hz))).mpr (hD z (List.mem_cons_of_mem _ hz))
    rw [List.length_erase_of_mem hx] at this
    have hp : 0 < D.length := List.length_pos_of_mem hx
    rw [List.length_cons]; omega
theorem setR_le {w : World} {h : Heap} {a : Addr} {T : Int → Bool} {m : Nat} (R : SetR w h a T m) {D : List Int} (hD : ∀ k, T k = true → k ∈ D) : m ≤ D.length := by
  obtain ⟨o, es, ep, t, _, _, _, _, nd, hm, _, _, hn, _⟩ := R
  have := nodup_len (es.toList.map keyOf) D nd fun z hz => hD z ((hm z).mpr hz)
  rw [List.length_map, Array.length_toList] at this
  omega
def rSetI (K : Frag) (w : World) : List V → Hp → VK → Prop := fun xs H Q => ∃ (l : Addr) (ns D : List Int), xs = [V.ref l] ∧ SqL K H l (ns.map V.int) ∧ ns.length + 1 < scanBound ∧ (∀ z ∈ ns, z ∈ D) ∧ ∀ a T m, H a = none → (∀ k, T k = true ↔ k ∈ ns) → m ≤ D.length → Q (.ref a) (upd H a (SetO w a T m))
theorem cr_setI (hc : X.calm = true) : CallR X (.type "set") (rSetI X.K X.w) := by
  intro pins s σ H xs us Q I r h
  obtain ⟨l, ns, D, rfl, hl, hf, hD, q⟩ := h
  rw [Vals.ref1 r]
  obtain ⟨its, rv, pl, hz⟩ := I.list hl
  refine call_set_ints (P := X.prog) (w := X.w) ns (I.ok.hd hc) pl.isList (by simpa using ints_of_vals rv) hf fun h' tk T m R g k => ?_
  have hT : ∀ k, T k = true ↔ k ∈ ns := fun k => by have := g.1 k; rwa [List.take_length] at this
  exact ⟨.ref s.heap.objs.size, upd H s.heap.objs.size (SetO X.w s.heap.objs.size T m), I.laid (t' := tk) k (Nat.le_refl _) (setO_new R), rfl, q _ T m (I.hok.fresh (Nat.le_refl _)) hT (setR_le R fun k hk => hD k ((hT k).mp hk))⟩
/-- sorted(set(xs)) of a list of numbers -/
structure SSet (K : Frag) (H : Hp) (p : Addr) (Q : V → Hp → Prop) : Prop where
  ex : ∃ ns D : List Int, SqL K H p (ns.map V.int) ∧ ns.length + 1 < scanBound ∧ D.length < 64 ∧ (∀ z ∈ ns, z ∈ D) ∧ ∀ (rs : List Int) (q : Addr) (H' : Hp), rs.Pairwise (· < ·) → (∀ k, k ∈ rs ↔ k ∈ ns) → Same H H' → H q = none → H' q = some (.lst (rs.map V.int)) → Q (.ref q) H'
def dSSet (K : Frag) (te : TE) : TE := fun σ H Q => te σ H fun x H1 => match x with
  | .ref p => SSet K H1 p Q
  | _ => False
/-- a reading closed under weaker wishes -/
def upE (te : TE) : TE := fun σ H Q => ∃ C : VK, te σ H C ∧ ∀ x H1, C x H1 → Q x H1
theorem pe_up {e : Expr} {te : TE} (he : PE X e te) : PE X e (upE te) := ⟨fun pins s σ H Q I h => by
  obtain ⟨C, h1, h2⟩ := h
  exact thn (he.run pins s σ H C I h1) fun v s1 ⟨x, H1, I1, r1, q1⟩ => ⟨x, H1, I1, r1, h2 x H1 q1⟩⟩
theorem pe_sset {e : Expr} {te : TE} {p1 p2 pos1 pos2 : Pos} (hc : X.calm = true) (h1 : X.mg "sorted" = none) (h2 : X.mg "set" = none) (b1 : bootBuiltins "sorted" = some (.builtin "sorted")) (b2 : bootBuiltins "set" = some (.type "set")) (he : PE X e te) (g1 : Gl X "sorted" := by rfl) (g2 : Gl X "set" := by rfl)
    (hs : starEach [.Call (.Name "set" p2) [e] [] pos2] X.env = (false, eval (.Call (.Name "set" p2) [e] [] pos2) X.env) :: starEach [] X.env := by rfl) (hs2 : starEach [e] X.env = (false, eval e X.env) :: starEach [] X.env := by rfl) :
    PE X (.Call (.Name "sorted" p1) [.Call (.Name "set" p2) [e] [] pos2] [] pos1) (dSSet X.K te) := by
  have hi : PE X (.Call (.Name "set" p2) [e] [] pos2) (tCB (rSetI X.K X.w) (tCons (upE te) tNil)) := pe_ct (cr_setI hc) h2 b2 (pa_cons (pe_up he) pa_nil (hs := hs2)) g2 (by decide) (by decide) hs2 rfl
  have ho : PE X (.Call (.Name "sorted" p1) [.Call (.Name "set" p2) [e] [] pos2] [] pos1) (tCB (rSortedSet X.w) (tCons (tCB (rSetI X.K X.w) (tCons (upE te) tNil)) tNil)) := pe_cb (cr_sortedSet hc) h1 b1 (pa_cons hi pa_nil (hs := hs)) g1 (by decide) (by decide) hs rfl
  refine PE.of ho fun σ H Q q => ?_
  refine ⟨_, q, fun x H1 q1 => ?_⟩
  cases x <;> try exact q1.elim
  obtain ⟨ns, D, hl, hf, hD, hsub, q2⟩ := q1.ex
  refine ⟨_, ns, D, rfl, hl, hf, hsub, fun a T m na hT hm => ?_⟩
  refine ⟨a, T, m, rfl, upd_same, by omega, fun rs p hp hmem _ np => ?_⟩
  have e1 := same_new (o := SetO X.w a T m) na
  refine q2 rs p _ hp (fun k => (hmem k).trans (hT k)) (e1.trans (same_new np)) ?_ upd_same
  cases e : H1 p with
  | none => rfl
  | some o => rw [e1 _ _ e] at np; cases np
end
end S
namespace S
open PySem PySem.Spec PyProof.Rows L2
def dTestO (K : Frag) (c : Str) (sp : Sp) (E : XK) (ta : TE) : TT := fun σ H Q => ta σ H fun x H1 => match x with
  | .ref p => IsO K H1 c p (sp [.ref p] H1 (isB Q) E)
  | x => dTru K x H1 fun b => Q b H1
theorem pt_ofO {X : Cx} {a : Expr} {ta : TE} {c : Str} {g : Addr} {k : Nat} {sp : Sp} {E : XK} (hm : Meth X.K (He.ga X.K c) "__bool__" g) (F : FnR X.prog X.w X.K X.mg X.base (L2.CX X.prog X.w) k g sp) (hr : Room k X.A) (hx : ∀ σ, PassesAt (L2.CX X.prog X.w) X σ E)
    (ha : PE X a ta) (he : ∀ whole, isTrue a X.env whole = (do let v ← whole; standAt a.pos; holding [v] (truthy v)) := by intro _; rfl) : PT X a (dTestO X.K c sp E ta) := by
  refine ⟨fun pins s σ H Q I h => ?_⟩
  refine isTrue_plain (thn (ha.run pins s σ H _ I h) fun v s1 ⟨x, H1, I1, r1, q1⟩ => ?_) (he _)
  cases x with
  | bl b =>
    exact tru_ok pins s1 σ H1 (.bl b) v Q I1 r1 ⟨b, rfl, q1⟩
  | non =>
    exact tru_ok pins s1 σ H1 .non v Q I1 r1 ⟨false, rfl, q1⟩
  | int i =>
    refine tru_ok pins s1 σ H1 (.int i) v Q I1 r1 ⟨_, rfl, ?_⟩
    have e : (i != 0) = decide (i ≠ 0) := by by_cases h : i = 0 <;> simp [h]
    rw [e]; exact q1
  | str z =>
    refine tru_ok pins s1 σ H1 (.str z) v Q I1 r1 ⟨_, ⟨q1.c, rfl⟩, ?_⟩
    have e : ((z.length : Int) != 0) = decide (z.length ≠ 0) := by by_cases h : z.length = 0 <;> simp [h]
    rw [e]; exact q1.q
  | ref p =>
    obtain ⟨⟨dx, vs, hsl⟩, q⟩ := q1
    cases r1
    obtain ⟨sl, od, _, J, _⟩ := SlX.slt_inst I1 hsl
    obtain ⟨m, hF⟩ := I1.fr
    refine PySem.W.truthy_K hF I1.ok.mod.kin J hm.at_ hm.fn (wpAny_mono (run_op (us := [.ref p]) (vs := [.ref p]) F hr I1.env0 hx I1 (.cons rfl .nil) q) (fun w s' z => ?_) fun _ _ x => x)
    obtain ⟨z', H', I', rz, qz⟩ := z
    obtain ⟨b, e, qz⟩ := isB_ex qz
    subst e
    cases rz
    exact ⟨H', I', qz⟩
  | _ => exact q1.elim
end S
namespace S
open PySem PySem.Spec PyProof.Rows L2
section
variable {X : Cx} {k n : Nat} {f : Addr} {sp : SpG} {x : Str} {p pos : Pos} {e : Expr} {es : List Expr} {t tk : TA} {gV : List V → List V → List V} {ks : List Str} {kws : List Keyword}
theorem run_gfk {pins : List (Addr × Obj)} {σ : L2.St} {H : Hp} {s : Shared} {us ws : List Value} {vs zs : List V} {cont : List V → Hp → Prop} {E : XK} {E1 : Value → Shared → Prop} (F : GFK X.prog X.w X.K X.mg X.base k f n ks sp gV) (hr : Room k X.A)
    (I : Inv X pins σ H s) (r : Vals vs us) (rz : Vals zs ws) (l1 : vs.length = n) (l2 : zs.length = ks.length) (h : sp (gV vs zs) H cont E) :
    wpAny (model X.prog X.w) X.A (call (.ref f) us (ks.zip ws)) (fun u s' => ∃ H1 sc ex, Inv X pins σ H1 sc ∧ ExOk X pins ex ∧ GMade X.prog X.w k X.stack H1 sc ex cont E u s') E1 s := by
  obtain ⟨fd, ps, gg, F, hb⟩ := F.ex
  have r2 := hb.rel r rz
  refine wpAny_call (codeAny_mono (F.run X.A X.stack s H ⟨us, ks.zip ws⟩ (gg us ws) (gV vs zs) cont E hr I.env0 (hb.to s us ws I.kIn (r.length.symm.trans l1) (rz.length.symm.trans l2)) r2 h) fun r s' hq => ?_)
  cases r with
  | error e => exact False.elim hq
  | ok fl =>
    cases fl with
    | ret u => exact ⟨H, s, [], I, .nil, hq⟩
    | next => exact False.elim hq
    | brk => exact False.elim hq
    | cont => exact False.elim hq
/-- f(e, .., k = v, ..) -/
def tCallGK (n m : Nat) (sp : SpG) (gV : List V → List V → List V) (t tk : TA) : TGenE := fun E σ H cont => t σ H fun vs H1 => tk σ H1 fun zs H2 => vs.length = n ∧ zs.length = m ∧ sp (gV vs zs) H2 cont E
theorem pgen_callK (F : GFK X.prog X.w X.K X.mg X.base k f n ks sp gV) (hr : Room k X.A) (hm : X.mg x = some (.ref f)) (hk : PySem.W.keepIn X.K (.ref f) = true)
    (ha : PA X (e :: es) t) (hkw : PK X kws tk) (hg : Gl X x := by rfl) (hall : (backToKw pos (keywordEach kws X.env)).all (·.1.isSome) = true := by rfl) (hks : (backToKw pos (keywordEach kws X.env)).filterMap (·.1) = ks := by rfl)
    (hdb : (x == ("__debug__" : Str)) = false := by decide) (he : starEach (e :: es) X.env = (false, eval e X.env) :: starEach es X.env := by rfl)
    (hpl : ((backTo pos (starEach (e :: es) X.env)).any (·.1) || (backToKw pos (keywordEach kws X.env)).any (·.1.isNone)) = false := by rfl) :
    PGenE X k (.Call (.Name x p) (e :: es) kws pos) (tCallGK n ks.length sp gV t tk) := by
  refine ⟨fun E => ⟨fun pins s σ H cont I h => ?_⟩⟩
  refine wpAny_Call_Name_kw (ld_glob I hg hm ?_ hdb)
  refine PySem.W.callWith_KW (h₀ := X.base) I.ok.mod.kin hk hall (thn (ha.run pos pins s σ H _ I h) fun us s1 ⟨vs, H1, I1, r, q⟩ => ?_) hpl he
  refine thn (hkw.run pos pins s1 σ H1 _ I1 q) fun ws s2 ⟨zs, H2, I2, rz, l1, l2, q2⟩ => ⟨I2.kIn, ?_⟩
  rw [hks]
  exact run_gfk F hr I2 r rz l1 l2 q2
end
end S
namespace S
open PySem PySem.Spec PyProof.Rows L2 GenW
/-! ### a heap's beginning as the ground of a run -/
def cut0 (h : Heap) (n : Nat) : Heap := { h with objs := h.objs.extract 0 n }
theorem cut0_ix {h : Heap} {n b : Nat} : (cut0 h n).objs[b]? = if b < n then h.objs[b]? else none := by
  unfold cut0
  simp only [Array.getElem?_extract]
  by_cases hb : b < n
  · rw [if_pos hb]
    by_cases h2 : b < h.objs.size
    · rw [if_pos (by omega), Nat.zero_add]
    · rw [if_neg (by omega)]
      exact (Array.getElem?_eq_none (by omega)).symm
  · rw [if_neg hb, if_neg (by omega)]
theorem cut0_get {h : Heap} {n b : Nat} {o : Obj} (e : (cut0 h n).get? b = some o) : b < n ∧ h.get? b = some o := by
  have ix := cut0_ix (h := h) (n := n) (b := b)
  unfold Heap.get? at e ⊢
  rw [ix] at e
  by_cases hb : b < n
  · rw [if_pos hb] at e
    exact ⟨hb, e⟩
  · rw [if_neg hb] at e
    cases e
theorem cut0_at {h : Heap} {n b : Nat} {o : Obj} (hb : b < n) (e : h.get? b = some o) : (cut0 h n).get? b = some o := by
  have ix := cut0_ix (h := h) (n := n) (b := b)
  unfold Heap.get? at e ⊢
  rw [ix, if_pos hb]
  exact e
theorem cut0_size {h : Heap} {n : Nat} : (cut0 h n).objs.size = min n h.objs.size := by
  unfold cut0
  simp
theorem cut0_funs {h base : Heap} {n : Nat} : ∀ {l : List Env}, h.FunFrames base l → (∀ b ∈ frs l, b < n) → (cut0 h n).FunFrames base l
  | [], _, _ => trivial
  | env :: rest, ⟨hk, ⟨L, o, e1, e2, e3, e4⟩, hr⟩, hb => by
    refine ⟨hk, ⟨L, o, e1, e2, cut0_at (hb L ?_) e3, e4⟩, cut0_funs hr fun b q => hb b ?_⟩
    · unfold frs
      rw [List.filterMap_cons, e1]
      exact List.mem_cons_self
    · unfold frs at q ⊢
      rw [List.filterMap_cons, e1]
      exact List.mem_cons_of_mem _ q
/-- the context over another ground -/
def rebC (X : Cx) (b : Shared × Hp) : Cx := { X with s_0 := { b.1 with heap := cut0 b.1.heap X.s_0.heap.objs.size }, H_0 := b.2 }
/-- the untracked objects stay -/
theorem un_cut {fs ex : List Addr} {H : Hp} {h : Heap} {n : Nat} : Un fs ex H H (cut0 h n) h where
  keep := fun _ _ e _ _ _ => (cut0_get e).2
  slot := fun _ o e _ _ _ => ⟨o.slots, (cut0_get e).2⟩
  free := fun _ _ _ q _ => q
  there := fun _ o e _ => ⟨o, (cut0_get e).2⟩
  tups := fun _ _ q => q
  frzs := fun _ _ _ q => q
  tbls := fun _ ps q => ⟨#[], by rw [q]; simp⟩
/-- what is known of a state in which a sleeping generator is woken -/
structure Wok (X : Cx) (gp : List (Addr × Obj)) (s : Shared) (H : Hp) : Prop where
  bare : AllBare s.gens
  bs : ∀ b o, X.base.get? b = some o → s.heap.get? b = some o ∧ H b = none
  bsz : X.base.objs.size ≤ s.heap.objs.size
  funs : s.heap.FunFrames X.base X.outer
  frf : ∀ b ∈ X.fs, H b = none
  hok : HOk X.prog X.w H s.heap
  gp : ∀ p ∈ gp, s.heap.get? p.1 = some p.2 ∧ H p.1 = none
section
variable {X : Cx} {pins : List (Addr × Obj)} {σ : L2.St} {H H' : Hp} {s s' : Shared} {b : Shared × Hp} {oL : Obj}
/-- over the ground where it stands -/
theorem inv_reb (I : Inv X pins σ H s) : Inv (rebC X (s, H)) pins σ H s := by
  have fr : ∀ q ∈ X.fs, q < X.s_0.heap.objs.size := fun q hq => by
    obtain ⟨_, o, ho, _⟩ := I.ok.funs.mem hq
    exact Heap.lt_size ho
  have hfs : ∀ q ∈ X.fs, H q = none := fun q hq => by
    obtain ⟨_, o, ho, _⟩ := I.ok.funs.mem hq
    exact I.base.free q o ho (I.ok.frf q hq) fun z => I.ok.exfs q z hq
  have sz : (cut0 s.heap X.s_0.heap.objs.size).objs.size = X.s_0.heap.objs.size := by
    rw [cut0_size]
    exact Nat.min_eq_left I.sz
  refine ⟨⟨I.ok.mod, I.ok.kind, I.ok.glob, I.ok.blt, ?_, I.ok.inj, I.ok.has, fun x c h1 h2 => ?_, I.ok.hd, I.ok.frames, I.ok.stk, I.ok.exf, fun q o e => ?_, ?_, I.ok.noex, I.ok.exfs, cut0_funs I.funs fr, hfs⟩, rfl, I.bare, un_cut, I.loc, I.cell, I.free, I.freeC, I.pin, I.hok, I.len⟩
  · show (cut0 s.heap _).objs.size ≤ _
    rw [sz]; exact I.ok.above
  · show (cut0 s.heap _).objs.size ≤ _
    rw [sz]; exact I.ok.cab x c h1 h2
  · obtain ⟨e1, e2⟩ := I.bs q o e
    exact ⟨cut0_at (Nat.lt_of_lt_of_le (Heap.lt_size e) I.ok.bsz) e1, e2⟩
  · show _ ≤ (cut0 s.heap _).objs.size
    rw [sz]; exact I.ok.bsz
/-- woken: what is its own stands as it stood -/
theorem inv_wake (I : Inv (rebC X b) pins σ H s) (hnl : X.s_0.heap.objs.size ≤ X.env.locals) (hbz : X.base.objs.size ≤ X.s_0.heap.objs.size) (hfr : ∀ q ∈ X.fs, q < X.s_0.heap.objs.size) (hc : ∀ x, X.env.cells.lookup x = none) (hL : s.heap.get? X.env.locals = some oL)
    (w : Wok X ((X.env.locals, oL) :: (X.pn ++ pins)) s' H') : Inv (rebC X (s', H')) pins σ H' s' := by
  obtain ⟨w1, w2⟩ := w.gp (X.env.locals, oL) List.mem_cons_self
  have lt : X.env.locals < s'.heap.objs.size := Heap.lt_size w1
  have sz : (cut0 s'.heap X.s_0.heap.objs.size).objs.size = X.s_0.heap.objs.size := by
    rw [cut0_size]
    exact Nat.min_eq_left (Nat.le_trans hnl (Nat.le_of_lt lt))
  refine ⟨⟨I.ok.mod, I.ok.kind, I.ok.glob, I.ok.blt, ?_, I.ok.inj, I.ok.has, fun x c _ h2 => ?_, I.ok.hd, I.ok.frames, I.ok.stk, I.ok.exf, fun q o e => ?_, ?_, I.ok.noex, I.ok.exfs, cut0_funs w.funs hfr, w.frf⟩, rfl, w.bare, un_cut, ?_, fun x c h => ?_, w2, fun x c h => ?_, fun p hp => ?_, w.hok, I.len⟩
  · show (cut0 s'.heap _).objs.size ≤ _
    rw [sz]; exact hnl
  · have h2 : X.env.cells.lookup x = some c := h2
    rw [hc x] at h2; cases h2
  · obtain ⟨e1, e2⟩ := w.bs q o e
    exact ⟨cut0_at (Nat.lt_of_lt_of_le (Heap.lt_size e) hbz) e1, e2⟩
  · show _ ≤ (cut0 s'.heap _).objs.size
    rw [sz]; exact hbz
  · obtain ⟨m, hn, hl⟩ := I.loc
    obtain ⟨o, es, ep, ho, hr⟩ := hn
    have ho' : s.heap.get? X.env.locals = some o := ho
    rw [hL] at ho'
    cases ho'
    refine ⟨m, ⟨oL, es, ep, w1, hr⟩, fun i x v h1 h2 h3 => ?_⟩
    obtain ⟨u, r, l⟩ := hl i x v h1 h2 h3
    refine ⟨u, r, l.imp (fun z => z) fun z => ?_⟩
    obtain ⟨_, c, e, _⟩ := z
    have e : X.env.cells.lookup x = some c := e
    rw [hc x] at e; cases e
  · have h : X.env.cells.lookup x = some c := h
    rw [hc x] at h; cases h
  · have h : X.env.cells.lookup x = some c := h
    rw [hc x] at h; cases h
  · obtain ⟨_, _, k3, k4, k5⟩ := I.pin p hp
    obtain ⟨g1, g2⟩ := w.gp p (List.mem_cons_of_mem _ hp)
    exact ⟨g1, g2, k3, k4, k5⟩
end

/-! ### a generator's body whose yields are the consumer's turns -/
abbrev TurnK := List V → V → Hp → (Hp → Prop) → Prop
abbrev WakeZ := List V → Shared → Hp → Prop
/-- the state in which the generator was woken -/
structure Gnd (X : Cx) (Z : WakeZ) (ys : List V) (s : Shared) (H : Hp) : Prop where
  z : Z ys s H
  sz : X.s_0.heap.objs.size ≤ s.heap.objs.size
/-- what a generator's body may count on -/
structure Alone (X : Cx) : Prop where
  nox : ∀ e s, X.xe e s → False
  nl : X.s_0.heap.objs.size ≤ X.env.locals
  bz : X.base.objs.size ≤ X.s_0.heap.objs.size
  fr : ∀ q ∈ X.fs, q < X.s_0.heap.objs.size
  nc : ∀ x, X.env.cells.lookup x = none
def GYf (X : Cx) (Z : WakeZ) (Kc : TurnK) : Protocol := fun n s₀ v s kap =>
  ∃ ys x ip σ H0 H oL post, n + 1 + ys.length = sizeLine ∧ RelV x v ∧ Gnd X Z ys s₀ H0 ∧ Inv (rebC X (s₀, H0)) ip σ H s ∧ s.heap.get? X.env.locals = some oL ∧ Kc ys x H post ∧
    ∀ s' H', Wok X ((X.env.locals, oL) :: (X.pn ++ ip)) s' H' → Z (ys ++ [x]) s' H' → post H' → kap (.send .none) s'
def GRf (X : Cx) (Z : WakeZ) (Q : List V → VK) : GenEnd := fun n s₀ r s => match r with
  | .ok (.ret u) => ∃ ys v ip σ H0 H, n + ys.length = sizeLine ∧ Gnd X Z ys s₀ H0 ∧ Inv (rebC X (s₀, H0)) ip σ H s ∧ RelV v u ∧ Q ys v H
  | _ => False
def GPf (X : Cx) (Z : WakeZ) (ip : List (Addr × Obj)) (D : GEnds) (ys : List V) (s₀ : Shared) (f : Flow) (s : Shared) : Prop := ∃ H0, Gnd X Z ys s₀ H0 ∧ SP (rebC X (s₀, H0)) ip (D.at ys) f s
structure GCf (X : Cx) (A : Around) (c : Code) (fs : List Frame) (gd : Bool → Bool) : Prop where
  over : A.over c fs = X.A
  split : splitAtGen fs = none
  guard : fs.any Frame.guarded = false
  gd : gd false = false
def GKf (X : Cx) (Z : WakeZ) (Kc : TurnK) (ip : List (Addr × Obj)) (A : Around) (R : GenEnd) (c : Code) (fs : List Frame) (K : Flow → Sem PySem.Fin) (D : GEnds) : Prop :=
  ∀ (n : Nat) (ys : List V) (s₀ s : Shared) (f : Flow), n + ys.length = sizeLine → GPf X Z ip D ys s₀ f s → Seg (model X.prog X.w) A R (GYf X Z Kc) n s₀ c (K f) fs s
def GRun (X : Cx) (Z : WakeZ) (Kc : TurnK) (m : Sem Flow) (t : TGn) : Prop :=
  ∀ (A : Around) (ip : List (Addr × Obj)) (R : GenEnd) (n : Nat) (ys : List V) (s₀ : Shared) (H0 : Hp) (c : Code) (fs : List Frame) (K : Flow → Sem PySem.Fin) (J : Value → Sem PySem.Fin) (gd : Bool → Bool) (lv : List Value → List Value) (s : Shared) (σ : L2.St) (H : Hp) (D : GEnds),
    GCf X A c fs gd → n + ys.length = sizeLine → Gnd X Z ys s₀ H0 → GKf X Z Kc ip A R c fs K D → Inv (rebC X (s₀, H0)) ip σ H s → t D ys σ H → Seg (model X.prog X.w) A R (GYf X Z Kc) n s₀ c (m.wrap K J gd lv) fs s
structure GSf (X : Cx) (Z : WakeZ) (Kc : TurnK) (st : Stmt) (t : TGn) : Prop where
  run : GRun X Z Kc (exec st X.env) t
structure GSsf (X : Cx) (Z : WakeZ) (Kc : TurnK) (st : List Stmt) (t : TGn) : Prop where
  run : GRun X Z Kc (execs st X.env) t
section
variable {X : Cx} {Z : WakeZ} {Kc : TurnK} {st : Stmt} {rest : List Stmt}
theorem gsf_ps {t : TS} (al : Alone X) (h : ∀ b, PS (rebC X b) st t) : GSf X Z Kc st (tPlain t) := by
  refine ⟨fun A ip R n ys s₀ H0 c fs K J gd lv s σ H D g hn hz k I ht => ?_⟩
  refine seg_wrap ?_
  rw [g.over]
  exact wpAny_mono ((h (s₀, H0)).run ip s σ H (D.at ys) I ht) (fun f s' hs => k n ys s₀ s' f hn ⟨H0, hz, hs⟩) fun x s' hx => (al.nox x s' hx).elim
theorem gssf_nil : GSsf X Z Kc [] tG0 := by
  refine ⟨fun A ip R n ys s₀ H0 c fs K J gd lv s σ H D g hn hz k I ht => ?_⟩
  exact seg_execs_nil (k n ys s₀ s .next hn ⟨H0, hz, σ, H, I, ht⟩)
theorem gssf_cons {t u : TGn} (a : GSf X Z Kc st t) (b : GSsf X Z Kc rest u) : GSsf X Z Kc (st :: rest) (tGThen t u) := by
  refine ⟨fun A ip R n ys s₀ H0 c fs K J gd lv s σ H D g hn hz k I ht => ?_⟩
  refine seg_execs_cons (a.run A ip R n ys s₀ H0 c fs _ J gd lv s σ H { D with nx := fun ys' σ' H' => u D ys' σ' H' } g hn hz (fun n' ys' s₀' s' f hn' hs => ?_) I ht)
  cases f with
  | next =>
    obtain ⟨H0', hz', σ', H', I', q⟩ := hs
    exact b.run A ip R n' ys' s₀' H0' c fs K J gd lv s' σ' H' D g hn' hz' k I' q
  | brk => exact k n' ys' s₀' s' .brk hn' hs
  | cont => exact k n' ys' s₀' s' .cont hn' hs
  | ret u => exact k n' ys' s₀' s' (.ret u) hn' hs
theorem gssf_one {t : TGn} (h : GSf X Z Kc st t) : GSsf X Z Kc [st] t := by
  have h2 := gssf_cons h (gssf_nil (X := X) (Z := Z) (Kc := Kc))
  exact ⟨fun A ip R n ys s₀ H0 c fs K J gd lv s σ H D g hn hz k I ht => h2.run A ip R n ys s₀ H0 c fs K J gd lv s σ H D g hn hz k I ht⟩
theorem gssf_stop {t : TGn} (h : GSsf X Z Kc rest t) : GSsf X Z Kc rest (gstop t) := ⟨fun A ip R n ys s₀ H0 c fs K J gd lv s σ H D g hn hz k I ht => h.run A ip R n ys s₀ H0 c fs K J gd lv s σ H D g hn hz k I ht.go⟩
theorem gsf_if {test : Expr} {body orelse : List Stmt} {pos : Pos} {c : TT} {t u : TGn} (al : Alone X) (hc : ∀ b, PT (rebC X b) test c) (ha : GSsf X Z Kc body t) (hb : GSsf X Z Kc orelse u) : GSf X Z Kc (.If test body orelse pos) (tGIf c t u) := by
  refine ⟨fun A ip R n ys s₀ H0 cd fs K J gd lv s σ H D g hn hz k I ht => ?_⟩
  show Seg _ _ _ _ _ _ _ ((do standAt pos; if ← isTrue test X.env (eval test X.env) then execs body X.env else execs orelse X.env : Sem Flow).wrap K J gd lv) _ _
  refine seg_bind_wrap (wpAny_standAt (seg_bind_wrap ?_))
  rw [g.over]
  refine wpAny_mono ((hc (s₀, H0)).run ip s σ H _ I ht) (fun b s' hb' => ?_) fun x s' hx => (al.nox x s' hx).elim
  obtain ⟨H2, I2, q2⟩ := hb'
  cases b with
  | true =>
    rw [if_pos rfl]
    exact ha.run A ip R n ys s₀ H0 cd fs K J gd lv s' σ H2 D g hn hz k I2 q2
  | false =>
    rw [if_neg Bool.false_ne_true]
    exact hb.run A ip R n ys s₀ H0 cd fs K J gd lv s' σ H2 D g hn hz k I2 q2
/-- yield e: the consumer's turn -/
def tFYield (Kc : TurnK) (te : TE) : TGn := fun D ys σ H => Need (ys.length < sizeLine) (te σ H fun x H1 => Kc ys x H1 fun H' => D.nx (ys ++ [x]) σ H')
theorem gsf_yield {e : Expr} {te : TE} {yp pos : Pos} (al : Alone X) (he : ∀ b, PE (rebC X b) e te) (hco : X.env.scope.isCoroutine = false := by rfl) (hi : interactive X.env = false := by rfl) : GSf X Z Kc (.Expr (.Yield (some e) yp) pos) (tFYield Kc te) := by
  refine ⟨fun A ip R n ys s₀ H0 c fs K J gd lv s σ H D g hn hz k I ht => ?_⟩
  obtain ⟨hlt, ht⟩ := ht
  obtain ⟨n, rfl⟩ : ∃ m, n = m + 1 := ⟨n - 1, by omega⟩
  refine seg_Expr_Yield g.split g.gd g.guard ?_ hco hi
  rw [g.over]
  refine wpAny_mono ((he (s₀, H0)).run ip s σ H _ I ht) (fun v s' hv => ?_) fun x s' hx => (al.nox x s' hx).elim
  obtain ⟨x, H1, I1, rv, q⟩ := hv
  intro kap hk
  obtain ⟨m, ⟨oL, es, ep, hL, hr⟩, _⟩ := id I1.loc
  have hL : s'.heap.get? X.env.locals = some oL := hL
  refine ⟨ys, x, ip, σ, H0, H1, oL, _, hn, rv, hz, I1, hL, q, fun s2 H2 w z p => hk .none s2 ?_⟩
  have lt : X.env.locals < s2.heap.objs.size := Heap.lt_size (w.gp (X.env.locals, oL) List.mem_cons_self).1
  refine k n (ys ++ [x]) s2 s2 .next ?_ ⟨H2, ⟨z, Nat.le_trans al.nl (Nat.le_of_lt lt)⟩, σ, H2, inv_wake I1 al.nl al.bz al.fr al.nc hL w, p⟩
  rw [List.length_append, List.length_singleton]; omega
theorem gcf_loop {A : Around} {c c' : Code} {fs : List Frame} {gd : Bool → Bool} {k : Result → Sem PySem.Fin} {l kp : List Value} {p : Pos} (g : GCf X A c fs gd) (hw : c'.weight = 0) (hu : c'.cUnits = 0) :
    GCf X A c' (.ret k none (gd false) l c p kp :: fs) id := by
  refine ⟨(over_loop hw hu).trans g.over, ?_, ?_, rfl⟩
  · show (splitAtGen fs).map _ = none
    rw [g.split] <;> rfl
  · show (gd false || fs.any Frame.guarded) = false
    rw [g.gd, g.guard] <;> rfl
theorem fpOk_reb {b b' : Shared × Hp} {ip : List (Addr × Obj)} {H H' : Hp} {q : Addr} (h : FpOk (rebC X b) ip H q) (hz : X.s_0.heap.objs.size ≤ b.1.heap.objs.size) (hn : H' q = none) : FpOk (rebC X b') ip H' q := by
  obtain ⟨_, h2, h3, h4, h5, h6⟩ := h
  refine ⟨hn, h2, h3, h4.imp (fun z => z) fun z => ?_, h5, h6⟩
  have z : (cut0 b.1.heap X.s_0.heap.objs.size).objs.size ≤ q := z
  show (cut0 b'.1.heap X.s_0.heap.objs.size).objs.size ≤ q
  rw [cut0_size] at z ⊢
  have z2 := Nat.min_eq_left hz
  rw [z2] at z
  exact Nat.le_trans (Nat.min_le_left _ _) z
theorem gsf_for {tg iter : Expr} {body : List Stmt} {wi : TI} {g : TG} {tb : TGn} {pos : Pos} (al : Alone X) (hc : X.calm = true) (hi : ∀ b, PI (rebC X b) tg iter wi) (hg : ∀ b, PG (rebC X b) tg g) (hb : GSsf X Z Kc body tb)
    (hs : ∀ x, foldedSetIterable iter X.env x = pure x := by intro _; rfl) : GSf X Z Kc (.For tg iter body [] pos) (dGFor wi g tb) := by
  refine ⟨fun A ip R n ys s₀ H0 c fs K J gd lv s σ H D gc hn hz k I ht => ?_⟩
  rw [exec_For]
  refine seg_bind_wrap (wpAny_standAt (seg_bind_wrap ?_))
  rw [gc.over]
  refine wpAny_mono ((hi (s₀, H0)).run ip s σ H _ I ht) (fun v s1 h1 => ?_) fun x s' hx => (al.nox x s' hx).elim
  refine seg_bind_wrap (wpAny_of_eq (hs v) (seg_bind_wrap (wpAny_standAt (seg_bind_wrap (wpAny_holding ?_)))))
  rw [gc.over]
  refine wpAny_mono h1 (fun itv s2 h2 => ?_) fun x s' hx => (al.nox x s' hx).elim
  obtain ⟨it, fp, tn, It, H2, e, I2, T, st2, f2, W, ⟨m0, w0⟩, turn⟩ := h2
  subst e
  refine seg_call fun p => ?_
  have gl := fun (kk : Result → Sem PySem.Fin) => gcf_loop (k := kk) (c' := .forLoop tg (.ref it) body [] X.env) (l := lv []) (kp := []) (p := p) gc rfl rfl
  have stat : ∀ {b' : Shared × Hp} {H' : Hp}, (∀ b ∈ fp, H' b = none) → ∀ b ∈ fp, FpOk (rebC X b') ip H' b := fun hn b hb => fpOk_reb (f2 b hb) hz.sz (hn b hb)
  have loop : ∀ (m i n : Nat) (ys : List V) (s₀ : Shared) (H0 : Hp) (s : Shared) (σ : L2.St) (H : Hp), n + ys.length = sizeLine → Gnd X Z ys s₀ H0 → W i m ys σ H → Inv (rebC X (s₀, H0)) ip σ H s → tn i s.heap → (∀ b ∈ fp, H b = none) →
      Seg (model X.prog X.w) A R (GYf X Z Kc) n s₀ (.forLoop tg (.ref it) body [] X.env) ((model X.prog X.w).den (.forLoop tg (.ref it) body [] X.env))
        (.ret (fun r => ((match r with | .ok f => (.pure f : Sem Flow) | .error e => .raise e).onRaise (cameBack X.env)).wrap K J gd lv) none (gd false) (lv []) c p [] :: fs) s := by
    intro m
    induction m using Nat.strongRecOn with
    | ind m ih =>
      intro i n ys s₀ H0 s σ H hn hz w I st fr
      refine seg_forLoop ?_
      rw [(gl _).over]
      rcases turn i m ys σ H w with ⟨stop, qn⟩ | ⟨go, N, hN, step⟩
      · refine wpAny_mono (T.done (rebC X (s₀, H0)) rfl rfl rfl hc i ip s σ H X.xe I (stat fr) st stop) (fun r s4 h4 => ?_) fun x s' hx => (al.nox x s' hx).elim
        obtain ⟨hr, I4⟩ := h4
        subst hr
        refine seg_block0 ?_
        exact seg_leaf (.ok .next) (k n ys s₀ s4 .next hn ⟨H0, hz, σ, H, I4, qn⟩)
      · refine wpAny_mono (T.item (rebC X (s₀, H0)) rfl rfl rfl hc i ip s σ H X.xe I (stat fr) st go) (fun r s4 h4 => ?_) fun x s' hx => (al.nox x s' hx).elim
        obtain ⟨u, hr, h4⟩ := h4
        subst hr
        refine wpAny_mono h4 (fun _ s5 h5 => ?_) fun x s' hx => (al.nox x s' hx).elim
        obtain ⟨x, H5, I5, r5, y5, st5, fr5⟩ := h5
        have I5' := I5.pinned (stat fr5) (T.obj _ _ st5)
        refine wpAny_mono ((hg (s₀, H0)).run _ s5 σ H5 x u _ I5' r5 (step x H5 y5)) (fun _ s6 h6 => ?_) fun x s' hx => (al.nox x s' hx).elim
        obtain ⟨σ6, H6, I6, q6⟩ := h6
        have again : ∀ {ys' : List V} {σ7 : L2.St} {H7 H0' : Hp} {s7 : Shared} {n' : Nat} {s₀' : Shared}, n' + ys'.length = sizeLine → Gnd X Z ys' s₀' H0' → Inv (rebC X (s₀', H0')) (ip ++ pinsAt fp s5.heap) σ7 H7 s7 → N ys' σ7 H7 →
            Seg (model X.prog X.w) A R (GYf X Z Kc) n' s₀' (.forLoop tg (.ref it) body [] X.env) (.pure (.again (.forLoop tg (.ref it) body [] X.env)))
            (.ret (fun r => ((match r with | .ok f => (.pure f : Sem Flow) | .error e => .raise e).onRaise (cameBack X.env)).wrap K J gd lv) none (gd false) (lv []) c p [] :: fs) s7 := by
          intro ys' σ7 H7 H0' s7 n' s₀' hn' hz' I7 n7
          obtain ⟨m', hm, w7⟩ := hN ys' σ7 H7 n7
          have pin : ∀ b ∈ fp, ∀ o, s5.heap.get? b = some o → s7.heap.get? b = some o ∧ H7 b = none := fun b hb o e => by
            have := I7.pin (b, o) (List.mem_append_right _ (List.mem_append_right _ (mem_pinsAt hb e)))
            exact ⟨this.1, this.2.1⟩
          refine seg_again rfl (ih m' hm (i + 1) n' ys' s₀' H0' s7 σ7 H7 hn' hz' w7 I7.unpinned (T.keep _ _ _ st5 fun b hb o e => (pin b hb o e).1) fun b hb => ?_)
          obtain ⟨o, e, d⟩ := T.obj _ _ st5 b hb
          exact (pin b hb o e).2
        refine hb.run A (ip ++ pinsAt fp s5.heap) R n ys s₀ H0 _ _ _ _ id id s6 σ6 H6 { D with nx := N, ct := N, bk := D.nx } (gl _) hn hz (fun n' ys' s₀' s7 f hn' hs => ?_) I6 q6
        obtain ⟨H0', hz', hs⟩ := hs
        cases f with
        | next =>
          obtain ⟨σ7, H7, I7, n7⟩ := hs
          exact again hn' hz' I7 n7
        | cont =>
          obtain ⟨σ7, H7, I7, n7⟩ := hs
          exact again hn' hz' I7 n7
        | brk =>
          obtain ⟨σ7, H7, I7, q7⟩ := hs
          exact seg_leaf (.ok .next) (k n' ys' s₀' s7 .next hn' ⟨H0', hz', σ7, H7, I7.unpinned, q7⟩)
        | ret v =>
          obtain ⟨y, σ7, H7, I7, r7, q7⟩ := hs
          exact seg_leaf (.ok (.ret v)) (k n' ys' s₀' s7 (.ret v) hn' ⟨H0', hz', y, σ7, H7, I7.unpinned, r7, q7⟩)
  exact loop m0 0 n ys s₀ H0 s2 σ H2 hn hz w0 I2 st2 fun b hb => (f2 b hb).1
end

/-! ### the call of such a def -/
abbrev SpF := List V → Hp → TurnK → (List V → Hp → Prop) → Prop
structure Wok0 (P : Program) (w : World) (base : Heap) (outer : List Env) (gp : List (Addr × Obj)) (s : Shared) (H : Hp) : Prop where
  bare : AllBare s.gens
  bs : ∀ b o, base.get? b = some o → s.heap.get? b = some o ∧ H b = none
  bsz : base.objs.size ≤ s.heap.objs.size
  funs : s.heap.FunFrames base outer
  frf : ∀ b ∈ frs outer, H b = none
  hok : HOk P w H s.heap
  gp : ∀ p ∈ gp, s.heap.get? p.1 = some p.2 ∧ H p.1 = none
/-- an item is handed out: n objects stood when the generator was made -/
def YItF (P : Program) (w : World) (base : Heap) (outer : List Env) (ng : Nat) (a : Addr) (g : Nat) (Z : WakeZ) (Kc : TurnK) : Protocol := fun n s₀ v s1 kap =>
  ∃ ys x H0 H gp post, n + 1 + ys.length = sizeLine ∧ RelV x v ∧ Z ys s₀ H0 ∧ s1.os = s₀.os ∧ AllBare s1.gens ∧ s1.heap.NoLimit ∧ s1.heap.IsGen a g ∧ Un (frs outer) [] H0 H (cut0 s₀.heap ng) s1.heap ∧ HOk P w H s1.heap ∧
    (∀ p ∈ gp, s1.heap.get? p.1 = some p.2 ∧ H p.1 = none ∧ p.1 ∉ frs outer ∧ ∀ v, p.2.data ≠ .cell v) ∧ (∃ o, (a, o) ∈ gp) ∧ Kc ys x H post ∧ ∀ s' H', Wok0 P w base outer gp s' H' → Z (ys ++ [x]) s' H' → post H' → kap (.send .none) s'
/-- the end -/
def FEnd (P : Program) (w : World) (outer : List Env) (ng : Nat) (Z : WakeZ) (Q : List V → Hp → Prop) (s₀ s1 : Shared) : Prop :=
  ∃ ys H0 H, Z ys s₀ H0 ∧ s1.os = s₀.os ∧ AllBare s1.gens ∧ Un (frs outer) [] H0 H (cut0 s₀.heap ng) s1.heap ∧ HOk P w H s1.heap ∧ Q ys H
def REnF (P : Program) (w : World) (outer : List Env) (ng : Nat) (Z : WakeZ) (Q : List V → Hp → Prop) : GenEnd := fun _ s₀ r s1 => ((r = .ok (.ret .none) ∨ r = .ok .next) ∧ FEnd P w outer ng Z Q s₀ s1) ∨ ∃ e, r = .error e ∧ False
/-- a generator that has not begun -/
def GMadeF (P : Program) (w : World) (K : Frag) (mg : Str → Option Value) (base : Heap) (k : Nat) (outer : List Env) (H : Hp) (s : Shared) (Kc : TurnK) (Q : List V → Hp → Prop) (u : Value) (s' : Shared) : Prop :=
  ∃ (a : Addr) (g : Nat) (c : Code), u = .ref a ∧ s.heap.objs.size ≤ a ∧ s'.heap.IsGen a g ∧ s'.gens[g]? = some (.fresh c) ∧ s'.os = s.os ∧ AllBare s'.gens ∧ s'.heap.NoLimit ∧ (∀ b o, s.heap.get? b = some o → s'.heap.get? b = some o) ∧
    ∀ (A : Around) (Z : WakeZ) (s2 : Shared), Room k A → A.frames = some outer → Env0 P w K mg base A outer s2 H → s2.heap = s'.heap → s2.os = s'.os → Z [] s2 H →
      Seg (model P w) A (REnF P w outer s.heap.objs.size Z Q) (YItF P w base outer s.heap.objs.size a g Z Kc) sizeLine s2 c ((model P w).den c) [] s2
def gcx0 (P : Program) (w : World) (K : Frag) (mg : Str → Option Value) (base : Heap) (N : List Str) (qual : Str) (scope : Scope) (f : Addr) (cd : Value) (A : Around) (outer : List Env) (s : Shared) (H : Hp) (pn : List (Addr × Obj)) : Cx :=
  { cxOf (L2.CX P w) P w K mg base N qual scope f cd A outer s H (fun _ _ _ => False) with pn := pn, xe := fun _ _ => False }
theorem cells_no {x : Str} : ∀ {names : List (Str × NameKind)} {n : Nat}, (∀ y ∈ names, y.2 ≠ .cell) → (cellsFrom n names []).lookup x = none
  | [], _, _ => rfl
  | (y, k) :: r, n, h => by
    have hk : (k == .cell) = false := by
      have := h (y, k) List.mem_cons_self
      cases k <;> first | rfl | exact absurd rfl this
    unfold cellsFrom
    rw [hk, if_neg Bool.false_ne_true]
    exact cells_no fun z hz => h z (List.mem_cons_of_mem _ hz)
structure GFF (P : Program) (w : World) (K : Frag) (mg : Str → Option Value) (base : Heap) (k : Nat) (f : Addr) (sp : SpF) : Prop where
  run : ∀ (A : Around) (outer : List Env) (s : Shared) (H : Hp) (us : List Value) (vs : List V) (Kc : TurnK) (Q : List V → Hp → Prop), Room k A → Env0 P w K mg base A outer s H → Vals vs us → sp vs H Kc Q →
    codeAny (model P w) A (.call (.ref f) ⟨us, []⟩) (fun r s' => match r with | .ok (.ret u) => GMadeF P w K mg base k outer H s Kc Q u s' | _ => False) s
theorem inv_swap {X Y : Cx} {pins : List (Addr × Obj)} {σ : L2.St} {H : Hp} {s : Shared} (I : Inv X pins σ H s) (e : Y = { X with xe := Y.xe }) : Inv Y pins σ H s := by
  rw [e]
  exact ⟨⟨I.ok.mod, I.ok.kind, I.ok.glob, I.ok.blt, I.ok.above, I.ok.inj, I.ok.has, I.ok.cab, I.ok.hd, I.ok.frames, I.ok.stk, I.ok.exf, I.ok.bs, I.ok.bsz, I.ok.noex, I.ok.exfs, I.ok.funs, I.ok.frf⟩, I.os, I.bare, I.base, I.loc, I.cell, I.free, I.freeC, I.pin, I.hok, I.len⟩
theorem inv_pn {X : Cx} {pn : List (Addr × Obj)} {σ : L2.St} {H : Hp} {s : Shared} (I : Inv X [] σ H s) (h : ∀ p ∈ pn, s.heap.get? p.1 = some p.2 ∧ H p.1 = none ∧ p.1 ≠ X.env.locals ∧ p.1 ∉ X.fs ∧ ∀ v, p.2.data ≠ .cell v) : Inv { X with pn := pn } [] σ H s :=
  ⟨⟨I.ok.mod, I.ok.kind, I.ok.glob, I.ok.blt, I.ok.above, I.ok.inj, I.ok.has, I.ok.cab, I.ok.hd, I.ok.frames, I.ok.stk, I.ok.exf, I.ok.bs, I.ok.bsz, I.ok.noex, I.ok.exfs, I.ok.funs, I.ok.frf⟩, I.os, I.bare, I.base, I.loc, I.cell, I.free, I.freeC, fun p hp => h p (by simpa using hp), I.hok, I.len⟩
/-- a generator def's promise to a loop, by its body -/
theorem gff_of {P : Program} {w : World} {K : Frag} {mg : Str → Option Value} {base : Heap} {k : Nat} {f : Addr} {x qual : Str} {params : Arguments} {body : List Stmt} {scope : Scope} {fd : FuncData} {N ps : List Str} {sp : SpF}
    (F : FunD K x qual params body scope [] [] f fd) (S : GScope N ps scope) (hnc : ∀ y ∈ scope.names, y.2 ≠ .cell) (len : ∀ vs H Kc Q, sp vs H Kc Q → vs.length = ps.length)
    (hbi : ∀ (kV doc pm : Value) (an : Option Addr) (cdv ct : Value) (us : List Value), us.length = ps.length → bindArgs (PySem.W.fnOf x qual params body scope .none kV doc pm an cdv ct) ⟨us, []⟩ = pure (ps.zip us)) {t : TurnK → TGn}
    (hbody : ∀ (cdv : Value) (A : Around) (outer : List Env) (s : Shared) (H : Hp) (pn : List (Addr × Obj)) (Z : WakeZ) (Kc : TurnK), Room k (A.deeper (envOfC qual scope s.heap.objs.size f cdv)) → Alone (gcx0 P w K mg base N qual scope f cdv A outer s H pn) →
      GSsf (gcx0 P w K mg base N qual scope f cdv A outer s H pn) Z Kc body (t Kc))
    (pure : ∀ vs H Kc Q, sp vs H Kc Q → t Kc { nx := fun ys _ H' => Q ys H', rt := fun ys v H' => v = .non ∧ Q ys H' } [] (start N vs) H) : GFF P w K mg base (k + 1) f sp := by
  refine ⟨fun A outer s H us vs Kc Q hr e0 r hsp => ?_⟩
  have hb := F.bindsN hbi
  obtain ⟨oc, od, dV, kV, doc, pm, an, cdv, ct, osl, rfl, lk, hcd, _, _⟩ := F.ex
  have hl := len _ _ _ _ hsp
  have hl2 : us.length = ps.length := by rw [← r.length]; exact hl
  have KX : K.In s.heap := e0.mod.kin.keeps fun b o e => (e0.bs b o e).1
  have lim : s.heap.NoLimit := e0.mod.nolimit.keeps fun b o e => (e0.bs b o e).1
  have hkind : ∀ y ∈ ps.zip us, scope.names.lookup y.1 = some .local ∨ (scope.names.lookup y.1 = some .cell ∧ ((cellsFrom (s.heap.objs.size + 1) scope.names []).lookup y.1).isSome = true) := fun ⟨n, v⟩ hy => by
    rcases S.par n (List.of_mem_zip hy).1 with q | q
    · exact .inl q
    · exact absurd rfl (hnc _ (PySem.mem_of_lookup q))
  have hbind := hb s us KX (by simpa using hl2)
  rw [List.append_nil] at hbind
  refine codeAny_call_generator hr.depth (KX _ _ lk) rfl S.co S.gen rfl (PySem.W.codeRec_of KX hcd) (hbind _ _ _ _ ?_)
  refine wpAny_newFunctionEnv_cells S.kind hkind fun env he s1 xx => ?_
  subst he
  have lim1 : s1.heap.NoLimit := lim.keeps xx.toInCall.keep
  refine ⟨lim1, ?_⟩
  obtain ⟨h1, tk, es1, hk1⟩ := xx.done
  have os1 : s1.os = s.os := by rw [es1]
  have gen1 : s1.gens = s.gens := by rw [es1]
  have lt1 : s.heap.objs.size < s1.heap.objs.size := xx.toInCall.ns.lt
  have main : ∀ (go : Obj) (nm qn : Value) (tk2 : Nat), go.cls = .type "generator" → go.data = .fields #[.int s1.gens.size 0, nm, qn] → go.slots = #[] → (∀ h : Heap, (h.push go).get? h.objs.size = some go) →
      GMadeF P w K mg base (k + 1) outer H s Kc Q (.ref s1.heap.objs.size) { s1 with gens := s1.gens.push (.fresh (.func body (envOfC qual scope s.heap.objs.size f cdv))), toks := tk2, heap := s1.heap.push go } := by
    intro go nm qn tk2 hgc hgd0 hgs hgp
    have hgen : ∀ h : Heap, h.get? s1.heap.objs.size = some go → h.IsGen s1.heap.objs.size s1.gens.size := fun h e => ⟨go, nm, qn, e, hgc, hgd0, hgs⟩
    have kpush : ∀ b o, s1.heap.get? b = some o → (s1.heap.push go).get? b = some o := fun b o e => Heap.get?_push_of_some _ e
    refine ⟨s1.heap.objs.size, s1.gens.size, _, rfl, Nat.le_of_lt lt1, hgen _ (hgp _), Array.getElem?_push_size .., os1, AllBare.push (by rw [gen1]; exact e0.bare) rfl, lim1.keeps kpush, fun b o e => kpush b o (xx.toInCall.keep b o e), ?_⟩
    intro Aw Z s2 hrw hfr e2 eh eo hz
    have eS : Env0 P w K mg base Aw outer s H := ⟨hfr, e0.mod, e0.bs, e0.bsz, e0.funs, e0.frf, e0.hok, e0.bare⟩
    have I1 : Inv (gcx0 P w K mg base N qual scope f cdv Aw outer s H []) [] (start N vs) H s1 := inv_swap (inv_startG (E := fun _ _ _ => False) S hrw.hd eS hl r xx) rfl
    have hgd : ∀ v, go.data ≠ .cell v := fun v q => by rw [hgd0] at q; cases q
    have al : Alone (gcx0 P w K mg base N qual scope f cdv Aw outer s H [(s1.heap.objs.size, go)]) := ⟨fun _ _ z => z, Nat.le_refl _, e0.bsz, fun q hq => by
      obtain ⟨_, o, ho, _⟩ := e0.funs.mem hq
      exact Heap.lt_size ho, fun y => cells_no hnc⟩
    have hfr0 : ∀ q ∈ frs outer, q < s.heap.objs.size := al.fr
    -- the frame stands in s2 as in s1
    have kp2 : ∀ b o, s1.heap.get? b = some o → s2.heap.get? b = some o := fun b o e => by rw [eh]; exact kpush b o e
    obtain ⟨m, ⟨oL, esL, epL, hL, hdL, hrL⟩, _⟩ := id I1.loc
    have I2 : Inv (gcx0 P w K mg base N qual scope f cdv Aw outer s H []) [] (start N vs) H s2 := I1.call' (ch := []) (eo.trans rfl) (Un.kept kp2) (I1.hok.kept kp2) e2.bare fun b z => by simp at z
    have hpn : s2.heap.get? s1.heap.objs.size = some go := by rw [eh]; exact hgp _
    have I3 : Inv (gcx0 P w K mg base N qual scope f cdv Aw outer s H [(s1.heap.objs.size, go)]) [] (start N vs) H s2 := inv_pn I2 fun p hp => by
      rw [List.mem_singleton.mp hp]
      refine ⟨hpn, I1.hok.fresh (Nat.le_refl _), Nat.ne_of_gt lt1, fun z => ?_, hgd⟩
      exact absurd (Nat.lt_trans (hfr0 _ z) lt1) (Nat.lt_irrefl _)
    have I4 := inv_reb I3
    have gz : Gnd (gcx0 P w K mg base N qual scope f cdv Aw outer s H [(s1.heap.objs.size, go)]) Z [] s2 H := ⟨hz, I3.sz⟩
    refine seg_func ?_
    refine seg_imp (R := GRf (gcx0 P w K mg base N qual scope f cdv Aw outer s H [(s1.heap.objs.size, go)]) Z fun ys v H' => v = .non ∧ Q ys H') (Y := GYf (gcx0 P w K mg base N qual scope f cdv Aw outer s H [(s1.heap.objs.size, go)]) Z Kc)
      (fun n s₀ r s1' hR => ?_) (fun n s₀ v s1' kap kap' hkk hY => ?_) sizeLine ?_
    · cases r with
      | error e => exact False.elim hR
      | ok fl =>
        cases fl with
        | next => exact False.elim hR
        | brk => exact False.elim hR
        | cont => exact False.elim hR
        | ret u =>
          obtain ⟨ys, v, ip, σ', H0, H', hn, hz', J, rv, ev, hQ⟩ := hR
          subst ev
          have eu : u = Value.none := rv
          subst eu
          exact .inl ⟨.inl rfl, ys, H0, H', hz'.z, J.os, J.bare, J.base, J.hok, hQ⟩
    · obtain ⟨ys, y, ip, σ', H0, H', oL', post, hn, rv, hz', J, hL', hk, hw⟩ := hY
      obtain ⟨m', ⟨o', es', ep', ho', hd', _⟩, _⟩ := id J.loc
      have ho' : s1'.heap.get? s.heap.objs.size = some o' := ho'
      have hL' : s1'.heap.get? s.heap.objs.size = some oL' := hL'
      rw [hL'] at ho'
      cases ho'
      refine ⟨ys, y, H0, H', (s.heap.objs.size, oL') :: ([(s1.heap.objs.size, go)] ++ ip), post, hn, rv, hz'.z, J.os, J.bare, J.nolimit, hgen _ (J.pin (s1.heap.objs.size, go) (List.mem_append_left _ (List.mem_singleton.mpr rfl))).1, J.base, J.hok, fun p hp => ?_, ⟨go, by simp⟩, hk, fun s' H2 wk z p => hkk _ _ (hw s' H2 ⟨wk.bare, wk.bs, wk.bsz, wk.funs, wk.frf, wk.hok, wk.gp⟩ z p)⟩
      rcases List.mem_cons.mp hp with e | hp
      · rw [e]
        refine ⟨hL', J.free, fun z => absurd (hfr0 _ z) (Nat.lt_irrefl _), fun v q => ?_⟩
        have q : oL'.data = .cell v := q
        rw [hd'] at q; cases q
      · obtain ⟨q1, q2, _, q4, q5⟩ := J.pin p hp
        exact ⟨q1, q2, q4, q5⟩
    · refine (hbody cdv Aw outer s H [(s1.heap.objs.size, go)] Z Kc (hrw.deeper _) al).run Aw [] _ sizeLine [] s2 H _ [] _ _ id id s2 (start N vs) H { nx := fun ys _ H' => Q ys H', rt := fun ys v H' => v = .non ∧ Q ys H' } ⟨over_func, rfl, rfl, rfl⟩ (Nat.add_zero _) gz (fun n ys s₀ s' fl hn hs => ?_) I4 (pure vs H Kc Q hsp)
      obtain ⟨H0, hz', hs⟩ := hs
      cases fl with
      | next =>
        obtain ⟨σ', H', J, hQ⟩ := hs
        exact seg_end (.ok (.ret .none)) ⟨ys, .non, [], σ', H0, H', hn, hz', J, rfl, rfl, hQ⟩
      | brk => obtain ⟨_, _, _, q⟩ := hs; exact False.elim q
      | cont => obtain ⟨_, _, _, q⟩ := hs; exact False.elim q
      | ret u =>
        obtain ⟨v, σ', H', J, rv, ev, hQ⟩ := hs
        exact seg_end (.ok (.ret u)) ⟨ys, v, [], σ', H0, H', hn, hz', J, rv, ev, hQ⟩
  exact main _ _ _ _ rfl rfl rfl fun h => Heap.get?_push_size _ rfl
end S
namespace S
open PySem PySem.Spec PyProof.Rows L2 GenW
section
variable (X : Cx)
def OpRg (f : Value → Value → Sem Value) (r : R2) : Prop := ∀ (pins : List (Addr × Obj)) (s : Shared) (σ : L2.St) (H : Hp) (x y : V) (v u : Value) (Q : VK), Inv X pins σ H s → RelV x v → RelV y u → r x y H Q →
  wpAny (model X.prog X.w) X.A (f v u) (fun z s' => s'.gens = s.gens ∧ EP X pins σ Q z s') X.xe s
structure PEg (e : Expr) (t : TE) : Prop where
  run : ∀ (pins : List (Addr × Obj)) (s : Shared) (σ : L2.St) (H : Hp) (Q : VK), Inv X pins σ H s → t σ H Q → wpAny (model X.prog X.w) X.A (eval e X.env) (fun z s' => s'.gens = s.gens ∧ EP X pins σ Q z s') X.xe s
structure PTg (e : Expr) (t : TT) : Prop where
  run : ∀ (pins : List (Addr × Obj)) (s : Shared) (σ : L2.St) (H : Hp) (Q : Bool → Hp → Prop), Inv X pins σ H s → t σ H Q → wpAny (model X.prog X.w) X.A (isTrue e X.env (eval e X.env)) (fun z s' => s'.gens = s.gens ∧ TP X pins σ Q z s') X.xe s
structure PSg (st : Stmt) (t : TS) : Prop where
  run : ∀ (pins : List (Addr × Obj)) (s : Shared) (σ : L2.St) (H : Hp) (D : Ends), Inv X pins σ H s → t D σ H → wpAny (model X.prog X.w) X.A (exec st X.env) (fun z s' => s'.gens = s.gens ∧ SP X pins D z s') X.xe s
structure PSsg (st : List Stmt) (t : TS) : Prop where
  run : ∀ (pins : List (Addr × Obj)) (s : Shared) (σ : L2.St) (H : Hp) (D : Ends), Inv X pins σ H s → t D σ H → wpAny (model X.prog X.w) X.A (execs st X.env) (fun z s' => s'.gens = s.gens ∧ SP X pins D z s') X.xe s
structure PGg (tg : Expr) (t : TG) : Prop where
  run : ∀ (pins : List (Addr × Obj)) (s : Shared) (σ : L2.St) (H : Hp) (v : V) (u : Value) (Q : L2.St → Hp → Prop), Inv X pins σ H s → RelV v u → t v σ H Q →
    wpAny (model X.prog X.w) X.A (assign tg X.env u) (fun _ s' => s'.gens = s.gens ∧ ∃ σ' H', Inv X pins σ' H' s' ∧ Q σ' H') X.xe s
structure PGsg (ts : List Expr) (t : TGs) : Prop where
  run : ∀ (pins : List (Addr × Obj)) (s : Shared) (σ : L2.St) (H : Hp) (vs : List V) (us : List Value) (Q : L2.St → Hp → Prop), Inv X pins σ H s → Vals vs us → t vs σ H Q →
    wpAny (model X.prog X.w) X.A (assignInOrder ((assignEach ts X.env).map (·.2)) us) (fun _ s' => s'.gens = s.gens ∧ ∃ σ' H', Inv X pins σ' H' s' ∧ Q σ' H') X.xe s
end
section
variable {X : Cx} {pos : Pos} {a b c e : Expr} {ta tb tc te : TE}
theorem pvg (i : Nat) {x : Str} (hN : X.N[i]? = some x := by rfl) (hv : Vis X.env.scope x := by first | exact Or.inl rfl | exact Or.inr (Or.inl rfl) | exact Or.inr (Or.inr rfl)) (hd : (x == ("__debug__" : Str)) = false := by decide)
    (hcd : (x == ("__classdict__" : Str)) = false := by decide) : PEg X (.Name x pos) (dVar i) := by
  refine ⟨fun pins s σ H Q I h => ?_⟩
  unfold dVar onSome at h
  cases e : nth σ i with
  | none => rw [e] at h; exact h.elim
  | some v =>
    rw [e] at h
    obtain ⟨m, hn, hl⟩ := I.loc
    obtain ⟨u, r, l⟩ := hl i x v hN (nth_ok e) hv
    have fin : s.gens = s.gens ∧ EP X pins σ Q u s := ⟨rfl, v, H, I, r, h⟩
    rcases l with ⟨hk, hm⟩ | ⟨hk, c, hc, hcell⟩
    · exact wpAny_Name (wpAny_loadName_local I.ok.kind hk hn hm fin) hd
    · rcases hk with hk | hk
      · exact wpAny_Name (wpAny_loadName_cell I.ok.kind hk hc hcell fin) hd
      · exact wpAny_Name (wpAny_loadName_free I.ok.kind hk hc hcell fin hcd) hd
theorem peg_int {i : Int} {j : Nat} : PEg X (.Constant (.int i) j pos) (tC (.int i)) := ⟨fun _ _ _ H _ I h => wpAny_Constant_int ⟨rfl, .int i, H, I.tok _, ⟨_, rfl⟩, h⟩⟩
theorem og_add {r : R2} (e : r = oI0 (fun i j => i + j)) : OpRg X (binaryOp .Add) r := fun pins s σ H x y v u Q I rx ry q => by
  subst e
  cases x <;> cases y <;> try exact q.elim
  rename_i i j
  obtain ⟨t, rfl⟩ := rx
  obtain ⟨t', rfl⟩ := ry
  exact add_int ⟨rfl, .int (i + j), H, I.tok _, ⟨_, rfl⟩, q⟩
theorem og_sub : OpRg X (binaryOp .Sub) oSub := fun pins s σ H x y v u Q I rx ry q => by
  cases x <;> cases y <;> try exact q.elim
  rename_i i j
  obtain ⟨t, rfl⟩ := rx
  obtain ⟨t', rfl⟩ := ry
  exact PyProof.Rows.sub_int ⟨rfl, .int (i - j), H, I.tok _, ⟨_, rfl⟩, q⟩
/-- + of two numbers alone -/
theorem og_addK {K : Frag} : OpRg X (binaryOp .Add) (fun x y H Q => int2 (fun i j => oAdd K (.int i) (.int j) H Q) x y) := fun pins s σ H x y v u Q I rx ry q => by
  cases x <;> cases y <;> try exact q.elim
  rename_i i j
  obtain ⟨t, rfl⟩ := rx
  obtain ⟨t', rfl⟩ := ry
  exact add_int ⟨rfl, .int (i + j), H, I.tok _, ⟨_, rfl⟩, q⟩
theorem og_lt : OpRg X (compareOp .Lt) oLt := fun pins s σ H x y v u Q I rx ry q => by
  cases x <;> cases y <;> try exact q.elim
  rename_i i j
  obtain ⟨t, rfl⟩ := rx
  obtain ⟨t', rfl⟩ := ry
  exact lt_int ⟨rfl, .bl (decide (i < j)), H, I, rfl, q⟩
theorem og_le : OpRg X (compareOp .LtE) oLe := fun pins s σ H x y v u Q I rx ry q => by
  cases x <;> cases y <;> try exact q.elim
  rename_i i j
  obtain ⟨t, rfl⟩ := rx
  obtain ⟨t', rfl⟩ := ry
  exact le_int ⟨rfl, .bl (decide (i ≤ j)), H, I, rfl, q⟩
theorem peg_op {op : Operator} {r : R2} (ho : OpRg X (binaryOp op) r) (ha : PEg X a ta) (hb : PEg X b tb) : PEg X (.BinOp a op b pos) (tOp r ta tb) := by
  refine ⟨fun pins s σ H Q I h => ?_⟩
  refine wpAny_BinOp (thn (ha.run pins s σ H _ I h) fun v s1 ⟨g1, x, H1, I1, r1, q1⟩ => thn (hb.run pins s1 σ H1 _ I1 q1) fun u s2 ⟨g2, y, H2, I2, r2, q2⟩ => thn (ho pins s2 σ H2 x y v u Q I2 r1 r2 q2) fun w s3 ⟨g3, q3⟩ => ⟨?_, q3⟩)
  rw [g3, g2, g1]
theorem ptg_chain {op op' : CmpOp} {r r' : R2} (ho : OpRg X (compareOp op) r) (ho' : OpRg X (compareOp op') r') (ha : PEg X a ta) (hb : PEg X b tb) (hc : PEg X c tc)
    (hm : lastMarks [op, op'] [b, c] = false := by with_unfolding_all rfl) : PTg X (.Compare a [op, op'] [b, c] pos) (dChainT r r' ta tb tc) := by
  refine ⟨fun pins s σ H Q I h => ?_⟩
  refine isTrue_chain (thn (ha.run pins s σ H _ I h) fun v s1 ⟨g1, x, H1, I1, r1, q1⟩ => test_link (thn (hb.run pins s1 σ H1 _ I1 q1) fun u s2 ⟨g2, y, H2, I2, r2, q2⟩ =>
    thn (ho pins s2 σ H2 x y v u _ I2 r1 r2 q2) fun d s3 ⟨g3, z, H3, I3, r3, q3⟩ => ?_)) hm
  obtain ⟨k, e, q3⟩ := isB_ex q3
  subst e
  cases r3
  have gg : s3.gens = s.gens := by rw [g3, g2, g1]
  refine wpAny_truthy_bool ?_
  cases k with
  | false => exact ite_ff ⟨gg, H3, I3, q3⟩
  | true =>
    refine ite_tt (test_last (thn (hc.run pins s3 σ H3 _ I3 q3) fun w' s4 ⟨g4, z', H4, I4, r4, q4⟩ => thn (ho' pins s4 σ H4 y z' u w' _ I4 r2 r4 q4) fun d' s5 ⟨g5, z2, H5, I5, r5, q5⟩ => ?_))
    obtain ⟨k2, e2, q5⟩ := isB_ex q5
    subst e2
    cases r5
    exact wpAny_truthy_bool ⟨by rw [g5, g4]; exact gg, H5, I5, q5⟩
theorem psg_if {sa sb : List Stmt} {tt : TT} {t u : TS} (hc : PTg X c tt) (ha : PSsg X sa t) (hb : PSsg X sb u) : PSg X (.If c sa sb pos) (dIfS tt t u) := by
  refine ⟨fun pins s σ H D I h => ?_⟩
  refine wpAny_If (thn (hc.run pins s σ H _ I h) fun d s1 ⟨g1, H1, I1, q1⟩ => ?_)
  cases d with
  | true => exact thn (ha.run pins s1 σ H1 D I1 q1) fun _ _ ⟨g2, q⟩ => ⟨g2.trans g1, q⟩
  | false => exact thn (hb.run pins s1 σ H1 D I1 q1) fun _ _ ⟨g2, q⟩ => ⟨g2.trans g1, q⟩
theorem pssg_nil : PSsg X [] tNext := ⟨fun _ _ σ H _ I h => wpAny_execs_nil ⟨rfl, σ, H, I, h⟩⟩
theorem pssg_cons {st : Stmt} {rest : List Stmt} {t u : TS} (h1 : PSg X st t) (h2 : PSsg X rest u) : PSsg X (st :: rest) (tSeq t u) := by
  refine ⟨fun pins s σ H D I h => ?_⟩
  refine wpAny_execs_cons (thn (h1.run pins s σ H { D with nx := u D } I h) fun f s1 ⟨g1, q⟩ => ?_)
  cases f with
  | next =>
    obtain ⟨σ', H', I', q⟩ := q
    exact thn (h2.run pins s1 σ' H' D I' q) fun _ _ ⟨g2, q⟩ => ⟨g2.trans g1, q⟩
  | ret v => exact ⟨g1, q⟩
  | brk => exact ⟨g1, q⟩
  | cont => exact ⟨g1, q⟩
theorem pssg_one {st : Stmt} {t : TS} (h1 : PSg X st t) : PSsg X [st] t := by
  have h2 := pssg_cons h1 (pssg_nil (X := X))
  exact ⟨fun pins s σ H D I h => h2.run pins s σ H D I h⟩
theorem pssg_stop {st : List Stmt} {t : TS} (h : PSsg X st t) : PSsg X st (stop t) := ⟨fun pins s σ H D I q => h.run pins s σ H D I q.go⟩
/-- a local name is stored -/
theorem store_g {pins : List (Addr × Obj)} {σ : L2.St} {H : Hp} {s : Shared} {i : Nat} {x : Str} {v : V} {u : Value} {Q : Unit → Shared → Prop} (I : Inv X pins σ H s) (hN : X.N.Nodup) (hi : X.N[i]? = some x) (hk : X.env.scope.names.lookup x = some .local) (r : RelV v u)
    (h : ∀ s', s'.gens = s.gens → Inv X pins (σ.set i (some v)) H s' → Q () s') : wpAny (model X.prog X.w) X.A (storeName X.env x u) Q X.xe s := by
  obtain ⟨m, hn, hl⟩ := id I.loc
  have hcls : (X.env.scope.kind == .class || (X.env.scope.kind == .module && X.env.locals != X.env.globals)) = false := by rw [I.ok.kind]; rfl
  have hiσ : i < σ.length := by rw [I.len]; exact (List.getElem?_eq_some_iff.mp hi).1
  have cne := I.cne
  refine wpAny_storeName_local hk hn (fun h' hn' hs => ?_) hcls
  obtain ⟨oL, _, _, hoL, _⟩ := id hn
  have old : ∀ q o, X.s_0.heap.get? q = some o → q ≠ X.env.locals := fun q o e => Nat.ne_of_lt (Nat.lt_of_lt_of_le (Heap.lt_size e) I.ok.above)
  have nl : ∀ q o, H q = some o → q ≠ X.env.locals := fun q o e z => by rw [z, I.free] at e; cases e
  refine h _ rfl ⟨I.ok, I.os, I.bare, ⟨fun q o e n hb hx => (hs.2 q (old q o e)).trans (I.base.keep q o e n hb hx), fun q o e n hb hx => ?_, I.base.free, fun q o e hx => ?_, I.base.tups, I.base.frzs, I.base.tbls⟩, ⟨_, hn', fun j y v' e1 e2 e3 => ?_⟩, fun y c e => ?_, I.free, I.freeC, fun p hp => ?_, fun q o e => ?_, by simpa using I.len⟩
  · obtain ⟨sl, e1⟩ := I.base.slot q o e n hb hx
    exact ⟨sl, (hs.2 q (old q o e)).trans e1⟩
  · obtain ⟨o', e1⟩ := I.base.there q o e hx
    exact ⟨o', (hs.2 q (old q o e)).trans e1⟩
  · by_cases hj : j = i
    · subst hj
      rw [hi] at e1
      cases e1
      rw [List.getElem?_set_self hiσ] at e2
      cases e2
      exact ⟨u, r, .inl ⟨hk, by simp⟩⟩
    · rw [List.getElem?_set_ne (Ne.symm hj)] at e2
      obtain ⟨u', r', q⟩ := hl j y v' e1 e2 e3
      refine ⟨u', r', q.imp (fun ⟨k, e⟩ => ⟨k, ?_⟩) fun ⟨k, c, e, z⟩ => ⟨k, c, e, z.sameBut hs (cne y c e)⟩⟩
      have : y ≠ x := fun e => hj (nodup_ix hN e1 (e ▸ hi))
      simp [this, e]
  · obtain ⟨w', z⟩ := I.cell y c e
    exact ⟨w', z.sameBut hs (cne y c e)⟩
  · obtain ⟨e, n, ne, nf, d⟩ := I.pin p hp
    exact ⟨(hs.2 p.1 ne).trans e, n, ne, nf, d⟩
  · refine (I.hok q o e).stay (fun c w' hc z => (hs.2 c ?_).trans z) (fun _ z => z) fun _ _ z => z
    rcases hc with hc | hc
    · rw [hc]; exact nl q o e
    · exact nl c _ hc
theorem psg_set {i : Nat} {x : Str} {pos' : Pos} (hN : X.N.Nodup) (hi : X.N[i]? = some x) (hx : Loc X.env.scope x) (he : PEg X e te) (hs : swapsWith e (some (.Name x pos')) pos.line X.env = pure false := by rfl) (hf : X.env.scope.names.lookup x = some .local := by rfl) :
    PSg X (.Assign [.Name x pos'] e pos) (tAsg te (gName i)) := by
  refine ⟨fun pins s σ H D I h => ?_⟩
  refine wpAny_Assign_Name (thn (he.run pins s σ H _ I h) fun v s1 ⟨g1, y, H1, I1, r1, q1⟩ => ?_) hs
  exact store_g I1 hN hi hf r1 fun s2 g2 I2 => ⟨g2.trans g1, _, H1, I2, q1⟩
theorem pgg_name {i : Nat} {x : Str} (hN : X.N.Nodup) (hi : X.N[i]? = some x) (hx : Loc X.env.scope x) (hf : X.env.scope.names.lookup x = some .local := by rfl) : PGg X (.Name x pos) (gName i) := by
  refine ⟨fun pins s σ H v u Q I r h => ?_⟩
  exact wpAny_assign_Name (store_g I hN hi hf r fun s' g' I' => ⟨g', _, H, I', h⟩)
theorem pgsg_nil : PGsg X [] gNil := by
  refine ⟨fun pins s σ H vs us Q I r h => ?_⟩
  obtain ⟨e, h⟩ := h
  subst e
  cases r
  exact assignInOrder_nil ⟨rfl, σ, H, I, h⟩
theorem pgsg_cons {es : List Expr} {t : TG} {u : TGs} (h1 : PGg X e t) (h2 : PGsg X es u)
    (hs : (assignEach (e :: es) X.env).map (·.2) = assign e X.env :: (assignEach es X.env).map (·.2) := by rfl) : PGsg X (e :: es) (gCons t u) := by
  refine ⟨fun pins s σ H vs us Q I r h => ?_⟩
  obtain ⟨v, vr, e1, h⟩ := h
  subst e1
  cases r with
  | cons r rr =>
    rw [hs]
    refine assignInOrder_cons (thn (h1.run pins s σ H _ _ _ I r h) fun _ s1 ⟨g1, σ1, H1, I1, q1⟩ => ?_)
    exact thn (h2.run pins s1 σ1 H1 _ _ Q I1 rr q1) fun _ _ ⟨g2, q⟩ => ⟨g2.trans g1, q⟩
theorem pgg_tup {es : List Expr} {k : Nat} {t : TGs} {n : Nat} (hc : X.calm = true) (h : PGsg X es t)
    (hn : (assignEach es X.env).length = n := by rfl) (hst : (assignEach es X.env).findIdx? (·.1) = none := by rfl) : PGg X (.Tuple es k pos) (gTup X.K n t) := by
  refine ⟨fun pins s σ H v u Q I r hw => ?_⟩
  obtain ⟨a, xs, e1, hq, hl, hw⟩ := hw
  subst e1
  cases r
  obtain ⟨its, rv, ht, hz⟩ := I.tuple hq
  refine assign_Tuple_tuple (I.ok.hd hc) ht (by simp [hn, ← hl, rv.length]) hst fun h' hx => ?_
  have I1 : Inv X pins σ H { s with heap := h' } := I.kept (t' := s.toks) fun b o e => hx b o (Nat.ne_of_lt (Heap.lt_size e)) e
  exact h.run pins _ σ H xs _ Q I1 (by simpa using rv) hw
end
end S
namespace S
open PySem PySem.Spec PyProof.Rows L2
/-- + of two numbers -/
def oAddI : R2 := oI0 fun i j => i + j
end S
namespace S
open PySem PySem.Spec PyProof.Rows L2 GenW
section
variable {X : Cx} {pins : List (Addr × Obj)} {σ : L2.St} {H H' : Hp} {s s' : Shared}
theorem inv_gens (I : Inv X pins σ H s) {g : Nat} {x : GenState} (hx : x.bare = true) : Inv X pins σ H (s.setGen g x) :=
  ⟨I.ok, I.os, allBare_setGen I.bare hx, I.base, I.loc, I.cell, I.free, I.freeC, I.pin, I.hok, I.len⟩
theorem stk_mem (I : Inv X pins σ H s) {q : Addr} (h : q ∉ X.fs) (h2 : q ≠ X.env.locals) : q ∉ frs X.stack := fun z => (List.mem_cons.mp (I.stkSub q z)).elim h2 h
/-- behind a run that promises for the n oldest objects -/
theorem inv_far {n : Nat} (I : Inv X pins σ H s) (hx : ∀ b, b ∉ X.ex) (hL : X.env.locals < n) (hcell : ∀ x c, X.env.cells.lookup x = some c → c < n ∧ c ∉ frs X.stack) (hp : ∀ p ∈ X.pn ++ pins, p.1 < n) (u : Un (frs X.stack) [] H H' (cut0 s.heap n) s'.heap) (os : s'.os = s.os) (hok : HOk X.prog X.w H' s'.heap) (hb : AllBare s'.gens) :
    Inv X pins σ H' s' := by
  have ne : ∀ q : Addr, q ∉ ([] : List Addr) := fun q z => by cases z
  have old : ∀ {q : Addr} {o : Obj}, X.s_0.heap.get? q = some o → q < n := fun {q o} e => Nat.lt_of_lt_of_le (Heap.lt_size e) (Nat.le_trans I.ok.above (Nat.le_of_lt hL))
  have nl : ∀ {q : Addr} {o : Obj}, X.s_0.heap.get? q = some o → q ≠ X.env.locals := fun {q o} e => Nat.ne_of_lt (Nat.lt_of_lt_of_le (Heap.lt_size e) I.ok.above)
  obtain ⟨m, ⟨oL, es, ep, hoL, hd, hr⟩, hl⟩ := id I.loc
  obtain ⟨sl, hoL'⟩ := u.any (cut0_at hL hoL) I.free (ne _)
  have cellK : ∀ x c, X.env.cells.lookup x = some c → ∀ v, s.heap.IsCell c v → s'.heap.IsCell c v := fun x c e v ⟨o, ho, hdd⟩ => ⟨o, u.keep c o (cut0_at (hcell x c e).1 ho) (I.freeC x c e) (hcell x c e).2 (ne _), hdd⟩
  refine ⟨I.ok, os.trans I.os, hb, ⟨fun q o e h1 h2 h3 => ?_, fun q o e h1 h2 h3 => ?_, fun q o e h1 h3 => ?_, fun q o e h3 => ?_, fun q xs e => u.tups q xs (I.base.tups q xs e), fun q o w e => u.frzs q o w (I.base.frzs q o w e), fun q ps e => ?_⟩, ⟨m, ⟨_, es, ep, hoL', hd, hr⟩, fun i x v e1 e2 e3 => ?_⟩, fun x c e => ?_, ?_, fun x c e => ?_, fun p h => ?_, hok, I.len⟩
  · exact u.keep q o (cut0_at (old e) (I.base.keep q o e h1 h2 h3)) (I.base.free q o e h1 h3) (stk_mem I h2 (nl e)) (ne _)
  · obtain ⟨sl1, e1⟩ := I.base.slot q o e h1 h2 h3
    obtain ⟨sl2, e2⟩ := u.any (cut0_at (old e) e1) (I.base.free q o e h1 h3) (ne _)
    exact ⟨sl2, e2⟩
  · obtain ⟨o', e1⟩ := I.base.there q o e h3
    exact u.free q o' (cut0_at (old e) e1) (I.base.free q o e h1 h3) (ne _)
  · obtain ⟨o', e1⟩ := I.base.there q o e h3
    exact u.there q o' (cut0_at (old e) e1) (ne _)
  · obtain ⟨m1, e1⟩ := I.base.tbls q ps e
    obtain ⟨m2, e2⟩ := u.tbls q _ e1
    exact ⟨m1 ++ m2, by rw [e2, Array.append_assoc]⟩
  · obtain ⟨u', r, l⟩ := hl i x v e1 e2 e3
    exact ⟨u', r, l.imp (fun z => z) fun ⟨k, c, e, z⟩ => ⟨k, c, e, cellK x c e _ z⟩⟩
  · obtain ⟨v, z⟩ := I.cell x c e
    exact ⟨v, cellK x c e v z⟩
  · exact u.free _ oL (cut0_at hL hoL) I.free (ne _)
  · obtain ⟨v, o, ho, _⟩ := I.cell x c e
    exact u.free c o (cut0_at (hcell x c e).1 ho) (I.freeC x c e) (ne _)
  · obtain ⟨k1, k2, k3, k4, k5⟩ := I.pin p h
    exact ⟨u.keep p.1 p.2 (cut0_at (hp p h) k1) k2 (stk_mem I k4 k3) (ne _), u.free p.1 p.2 (cut0_at (hp p h) k1) k2 (ne _), k3, k4, k5⟩
end
/-- a generator that a loop walks -/
abbrev TGenF := TurnK → (List V → Hp → Prop) → L2.St → Hp → Prop
structure PGenF (X : Cx) (k : Nat) (e : Expr) (tg : TGenF) : Prop where
  run : ∀ (pins : List (Addr × Obj)) (s : Shared) (σ : L2.St) (H : Hp) (Kc : TurnK) (Q : List V → Hp → Prop), Inv X pins σ H s → tg Kc Q σ H →
    wpAny (model X.prog X.w) X.A (eval e X.env) (fun u s' => ∃ H1 sc, Inv X pins σ H1 sc ∧ GMadeF X.prog X.w X.K X.mg X.base k X.stack H1 sc Kc Q u s') X.xe s
/-- o.m(), o an instance with slots -/
def tMethFS (K : Frag) (c : Str) (sp : SpF) (ta : TE) : TGenF := fun Kc Q σ H => ta σ H fun x H1 => match x with
  | .ref a => IsO K H1 c a (sp [.ref a] H1 Kc Q)
  | _ => False
theorem pgenF_meth0 {X : Cx} {k : Nat} {g : Addr} {sp : SpF} {c m : Str} {pos apos : Pos} {o : Expr} {ta : TE} {pl : Sem Bool} (hc : SlX.SCls X.K (He.ga X.K c)) (hm : Meth X.K (He.ga X.K c) m g) (F : GFF X.prog X.w X.K X.mg X.base k g sp) (hr : Room k X.A) (he : PE X o ta)
    (ht : eval (.Call (.Attribute o m apos) [] [] pos) X.env = (do
      let ov ← eval o X.env
      standAt apos.atName
      let (f, first) ← holding [ov] (getMethod ov m pl)
      callWith pos f first (backTo pos (starEach [] X.env)) (backToKw pos (keywordEach [] X.env))) := by rfl) :
    PGenF X k (.Call (.Attribute o m apos) [] [] pos) (tMethFS X.K c sp ta) := by
  refine ⟨fun pins s σ H Kc Q I h => ?_⟩
  refine PySem.W.methodCall_KW (pl := pl) (thn (he.run pins s σ H _ I h) fun u s1 ⟨x, H1, I1, rx, q⟩ => ?_) ht
  cases x <;> try exact q.elim
  cases rx
  obtain ⟨⟨dx, vs, hsl⟩, q⟩ := q
  refine SlX.getmethsl_ok I1 hsl hc hm ?_
  refine PySem.W.callWith_K0 (first := [.ref _]) I1.kIn hm.kp (wpAny_call (codeAny_mono (F.run X.A X.stack s1 H1 [.ref _] [.ref _] Kc Q hr I1.env0 (.cons rfl .nil) q) fun r s2 hq => ?_))
  cases r with
  | error e => exact False.elim hq
  | ok fl =>
    cases fl with
    | ret u => exact ⟨H1, s1, I1, hq⟩
    | next => exact False.elim hq
    | brk => exact False.elim hq
    | cont => exact False.elim hq
/-- the loop: W tells the slots by what was handed out -/
structure LpF (tg : TGenF) (g : TG) (tb : TS) (D : Ends) (σ : L2.St) (H : Hp) : Prop where
  ex : ∃ W : List V → L2.St → Prop, W [] σ ∧ tg (fun ys x H1 post => ∀ σ1, W ys σ1 → g x σ1 H1 fun σ2 H2 => tb { D with nx := fun σ3 H3 => W (ys ++ [x]) σ3 ∧ post H3, ct := fun σ3 H3 => W (ys ++ [x]) σ3 ∧ post H3, bk := D.nx } σ2 H2) (fun ys H1 => ∀ σ1, W ys σ1 → D.nx σ1 H1) σ H
def dForF (tg : TGenF) (g : TG) (tb : TS) : TS := fun D σ H => LpF tg g tb D σ H
theorem ps_forF {X : Cx} {k : Nat} {tgt iter : Expr} {body : List Stmt} {tg : TGenF} {g : TG} {tb : TS} {pos : Pos} (hp : PassesOwn (model X.prog X.w) X.A X.env X.xe) (hc : X.calm = true) (hi : PGenF X k iter tg) (hr : Room (k + 1) X.A) (hg : PGg X tgt g) (hb : PSsg X body tb) (hnc : ∀ x, X.env.cells.lookup x = none)
    (hst : X.stack = X.env :: X.outer := by rfl) (hfr : X.env.frame = some X.env.locals := by rfl) (hex : X.ex = [] := by rfl) (hs : ∀ x, foldedSetIterable iter X.env x = pure x := by intro _; rfl) : PS X (.For tgt iter body [] pos) (dForF tg g tb) := by
  refine ⟨fun pins s σ H D I h => ?_⟩
  obtain ⟨W, w0, h⟩ := h.ex
  refine wpAny_For (thn (hi.run pins s σ H _ _ I h) fun u s1 ⟨H1, sc, I1, hG⟩ => ?_) hs
  obtain ⟨a, gn, c, rfl, ha, hgen, hgs, hos, hbare, hlim, hkp, wake⟩ := hG
  refine wpAny_pyIter_gen hgen ?_
  have hx : ∀ b, b ∉ X.ex := fun b z => by rw [hex] at z; cases z
  have mF : ∀ q, q ∈ X.env.locals :: X.fs → q ∈ frs X.stack := fun q hq => by
    rw [hst]
    unfold frs
    rw [List.filterMap_cons, hfr]
    exact hq
  have hL : X.env.locals < sc.heap.objs.size := I1.lt
  have hcell : ∀ x c, X.env.cells.lookup x = some c → c < sc.heap.objs.size ∧ c ∉ frs X.stack := fun x c e => by rw [hnc] at e; cases e
  have hpn : ∀ p ∈ X.pn ++ pins, p.1 < sc.heap.objs.size := fun p hp => Heap.lt_size (I1.pin p hp).1
  have I2 : Inv X pins σ H1 s1 := I1.call' (ch := []) hos (Un.kept hkp) (I1.hok.kept hkp) hbare fun b z => by simp at z
  have hr1 : Room k X.A.in1 := hr.in1
  have hdp : X.A.depth < recursionLimit := by have := hr.dp; omega
  refine codeAny_forLoop_any (fun n s' => ∃ ys σ' H' gs, Inv X pins σ' H' s' ∧ W ys σ' ∧ s'.heap.IsGen a gn ∧ s'.gens[gn]? = some gs ∧
    gs.Goes (model X.prog X.w) X.A.in1 (REnF X.prog X.w X.stack sc.heap.objs.size (fun ys s H => ∃ σ, Inv X pins σ H s ∧ W ys σ) (fun ys H1 => ∀ σ1, W ys σ1 → D.nx σ1 H1))
      (YItF X.prog X.w X.base X.stack sc.heap.objs.size a gn (fun ys s H => ∃ σ, Inv X pins σ H s ∧ W ys σ) (fun ys x H1 post => ∀ σ1, W ys σ1 → g x σ1 H1 fun σ2 H2 => tb { D with nx := fun σ3 H3 => W (ys ++ [x]) σ3 ∧ post H3, ct := fun σ3 H3 => W (ys ++ [x]) σ3 ∧ post H3, bk := D.nx } σ2 H2)) n (.send .none) (s'.setGen gn .running)) ?_ sizeLine ?_
  · rintro n s3 ⟨ys, σ3, H3, gs, I3, w3, hg3, hgs3, hgo⟩
    have hgl : gn < s3.gens.size := (Array.getElem?_eq_some_iff.mp hgs3).1
    refine wpAny_gsz (n := gn + 1) hgl (next_genG (I3.ok.hd hc) I3.nolimit hdp hg3 hgs3 hgo (fun v s4 gs' hbr hy => ?_) (fun s4 hf h' hk => ?_) fun e s4 he => he.elim)
    · intro hsz
      obtain ⟨ys', x, H0, H4, gp, post, hn, rv, ⟨σ0, J0, w0'⟩, os4, b4, lim4, gen4, un4, hok4, hgp, ⟨ao, hao⟩, hk, hw⟩ := hy
      have sz4 : gn < (s4.setGen gn gs').gens.size := hsz
      have J1 : Inv X pins σ0 H4 s4 := inv_far J0 hx hL hcell hpn un4 os4 hok4 b4
      have J2 : Inv X pins σ0 H4 (s4.setGen gn gs') := inv_gens J1 hbr
      have J3 : Inv X (pins ++ gp) σ0 H4 (s4.setGen gn gs') := J2.pins_of fun p hp => by
        rcases List.mem_append.mp hp with z | z
        · exact J2.pin p (List.mem_append_right _ z)
        · obtain ⟨q1, q2, q3, q4⟩ := hgp p z
          exact ⟨q1, q2, fun e => q3 (mF _ (by rw [e]; exact List.mem_cons_self)), fun e => q3 (mF _ (List.mem_cons_of_mem _ e)), q4⟩
      obtain ⟨o, nm, qn, ho, hcls, hdat, hsl⟩ := id gen4
      refine go_of (n := "generator") (by exact ho) hcls hdat (by decide) ?_
      refine wpAny_passesOwn hp (thn (hg.run _ _ σ0 H4 x v _ J3 rv (hk σ0 w0')) fun _ s5 ⟨g5, σ5, H5, I5, q5⟩ => ?_)
      refine wpAny_passesOwn hp (thn (hb.run _ s5 σ5 H5 _ I5 q5) fun f s6 ⟨g6, q6⟩ => ?_)
      have gg : s6.gens = (s4.setGen gn gs').gens := g6.trans g5
      have again : ∀ {σ7 : L2.St} {H7 : Hp}, Inv X (pins ++ gp) σ7 H7 s6 → W (ys' ++ [x]) σ7 ∧ post H7 → ∃ m, m < n ∧ ∃ ys σ' H' gs, Inv X pins σ' H' s6 ∧ W ys σ' ∧ s6.heap.IsGen a gn ∧ s6.gens[gn]? = some gs ∧
          gs.Goes (model X.prog X.w) X.A.in1 (REnF X.prog X.w X.stack sc.heap.objs.size (fun ys s H => ∃ σ, Inv X pins σ H s ∧ W ys σ) (fun ys H1 => ∀ σ1, W ys σ1 → D.nx σ1 H1))
            (YItF X.prog X.w X.base X.stack sc.heap.objs.size a gn (fun ys s H => ∃ σ, Inv X pins σ H s ∧ W ys σ) (fun ys x H1 post => ∀ σ1, W ys σ1 → g x σ1 H1 fun σ2 H2 => tb { D with nx := fun σ3 H3 => W (ys ++ [x]) σ3 ∧ post H3, ct := fun σ3 H3 => W (ys ++ [x]) σ3 ∧ post H3, bk := D.nx } σ2 H2)) m (.send .none) (s6.setGen gn .running) := by
        intro σ7 H7 I7 ⟨w7, p7⟩
        have I8 : Inv X pins σ7 H7 s6 := I7.unpinned
        have I9 : Inv X pins σ7 H7 (s6.setGen gn .running) := inv_gens I8 rfl
        have pin : ∀ p ∈ gp, s6.heap.get? p.1 = some p.2 ∧ H7 p.1 = none := fun p hp => by
          obtain ⟨k1, k2, _⟩ := I7.pin p (List.mem_append_right _ (List.mem_append_right _ hp))
          exact ⟨k1, k2⟩
        have e0 := I9.env0
        have wk : Wok0 X.prog X.w X.base X.stack gp (s6.setGen gn .running) H7 := ⟨e0.bare, e0.bs, e0.bsz, e0.funs, e0.frf, e0.hok, pin⟩
        have fin := hw (s6.setGen gn .running) H7 wk ⟨σ7, I9, w7⟩ p7
        cases n with
        | zero => exact fin.elim
        | succ m =>
          refine ⟨m, Nat.lt_succ_self _, ys' ++ [x], σ7, H7, gs', I8, w7, ?_, ?_, fin⟩
          · have k1 := (pin (a, ao) hao).1
            have k2 := (hgp (a, ao) hao).1
            have k2 : s4.heap.get? a = some ao := k2
            rw [ho] at k2
            cases k2
            exact ⟨_, nm, qn, k1, hcls, hdat, hsl⟩
          · rw [gg]
            exact setGen_at (by rw [setGen_size] at sz4; exact sz4)
      cases f with
      | next => obtain ⟨σ7, H7, I7, n7⟩ := q6; exact again I7 n7
      | cont => obtain ⟨σ7, H7, I7, n7⟩ := q6; exact again I7 n7
      | brk => obtain ⟨σ7, H7, I7, q7⟩ := q6; exact ⟨σ7, H7, I7.unpinned, q7⟩
      | ret v => obtain ⟨x7, σ7, H7, I7, r7, q7⟩ := q6; exact ⟨x7, σ7, H7, I7.unpinned, r7, q7⟩
    · intro hsz
      obtain ⟨ys', H0, H4, ⟨σ0, J0, w0'⟩, os4, b4, un4, hok4, hQ⟩ := hf
      have J1 : Inv X pins σ0 H4 s4 := inv_far J0 hx hL hcell hpn un4 os4 hok4 b4
      have J2 : Inv X pins σ0 H4 (s4.setGen gn .finished) := inv_gens J1 rfl
      exact wpAny_execs_nil ⟨σ0, H4, J2.kept (h' := h') (t' := s4.toks) hk, hQ σ0 w0'⟩
  · refine ⟨[], σ, H1, .fresh c, I2, w0, hgen, hgs, rfl, ?_⟩
    have I3 : Inv X pins σ H1 (s1.setGen gn .running) := inv_gens I2 rfl
    refine wake X.A.in1 _ (s1.setGen gn .running) hr1 I1.ok.frames ?_ rfl rfl ⟨σ, I3, w0⟩
    have e0 := I3.env0
    exact ⟨e0.frames, e0.mod, e0.bs, e0.bsz, e0.funs, e0.frf, e0.hok, e0.bare⟩
end S
namespace S
open PySem PySem.Spec PyProof.Rows L2
/-- the turns of range(i, j, c) -/
structure RngS (i j c : Int) (k : Nat → Prop) : Prop where
  ex : ∃ n, RgC i j c n ∧ k n
theorem RngS.up {j c : Int} {k : Nat → Prop} (c1 : 1 ≤ c) (c2 : c < 1000000) (j0 : 0 ≤ j) (j1 : j < 2 ^ 60) (q : k ((j + c - 1) / c).toNat) : RngS 0 j c k := by
  refine ⟨_, ⟨by omega, by omega, ?_, ?_⟩, q⟩
  · unfold Builtin.Range.small
    have e := rangeSize_pos c1 j0
    have h1 : (j + c - 1) / c ≤ j + c - 1 := Int.ediv_le_self c (by omega)
    have h0 : 0 ≤ (j + c - 1) / c := Int.ediv_nonneg (by omega) (by omega)
    rw [e]
    simp only [Builtin.Range.rangeFitsLong, Bool.and_eq_true, Bool.or_eq_true, decide_eq_true_eq, beq_iff_eq]
    have c0 : c > 0 := by omega
    simp only [c0, if_true]
    refine ⟨by omega, .inr ?_⟩
    rw [Bool.and_eq_true, decide_eq_true_eq, decide_eq_true_eq]
    omega
  · rw [rangeSize_pos c1 j0]
    exact (Int.toNat_of_nonneg (Int.ediv_nonneg (by omega) (by omega))).symm
def iR3S (vs : List V) (H : Hp) (R : It → Hp → Prop) : Prop := match vs with
  | [.int i, .int j, .int c] => RngS i j c fun n => R (Itc i c n) H
  | _ => False
def iRngS (ta : TA) : TI := fun σ H R => ta σ H fun vs H1 => iR3S vs H1 R
theorem iR3S_eq {R : It → Hp → Prop} : (fun (vs : List V) (H : Hp) => iR3S vs H R) = fun vs H => ∃ (i j c : Int) (n : Nat), vs = [.int i, .int j, .int c] ∧ RgC i j c n ∧ R (Itc i c n) H := by
  funext vs H
  refine propext ⟨fun q => ?_, fun ⟨i, j, c, n, e, h, q⟩ => by subst e; exact ⟨n, h, q⟩⟩
  match vs, q with
  | [.int i, .int j, .int c], ⟨n, h, q⟩ => exact ⟨i, j, c, n, rfl, h, q⟩
theorem pi_rngS {X : Cx} {tg a b c : Expr} {ta : TA} {p pos : Pos} (hg : Gl X "range") (hm : X.mg "range" = none) (ha : PA X [a, b, c] ta)
    (hs : starEach [a, b, c] X.env = (false, eval a X.env) :: starEach [b, c] X.env := by rfl) (hpl : (backTo pos (starEach [b, c] X.env)).any (·.1) = false := by rfl) :
    PI X tg (.Call (.Name "range" p) [a, b, c] [] pos) (iRngS ta) := by
  have h := pi_range3 (tg := tg) (p := p) hg hm ha hs hpl
  refine ⟨fun pins s σ H R I q => h.run pins s σ H R I ?_⟩
  have q : ta σ H (fun vs H1 => iR3S vs H1 R) := q
  rw [iR3S_eq] at q
  exact q
theorem for_rngS {c : Int} {n : Nat} {g : TG} {tb : TS} {D : Ends} {σ : L2.St} {H : Hp} (Pv : Nat → L2.St → Hp → Prop) (h0 : Pv 0 σ H)
    (hs : ∀ (i : Nat) σ H, i < n → Pv i σ H → g (.int ((i : Nat) * c)) σ H fun σ2 H2 => tb { D with nx := Pv (i + 1), ct := Pv (i + 1), bk := D.nx } σ2 H2) (hd : ∀ σ H, Pv n σ H → D.nx σ H) :
    LoopR D g tb σ (Itc 0 c n) H := by
  refine L2.for_rangeC (lo := 0) Pv h0 (fun i σ H hi q => ?_) hd
  have z := hs i σ H hi q
  rw [Int.zero_add]; exact z
end S
namespace S
open PySem PySem.Spec PyProof.Rows L2
open Sem (wp)
/-! ### what is gone stays gone -/
structure DeadH (h h' : Heap) : Prop where
  sz : h.objs.size ≤ h'.objs.size
  no : ∀ a, a < h.objs.size → h.get? a = none → h'.get? a = none
theorem DeadH.refl (h : Heap) : DeadH h h := ⟨Nat.le_refl _, fun _ _ e => e⟩
theorem DeadH.trans {a b c : Heap} (h : DeadH a b) (k : DeadH b c) : DeadH a c := ⟨Nat.le_trans h.sz k.sz, fun x hx e => k.no x (Nat.lt_of_lt_of_le hx h.sz) (h.no x hx e)⟩
theorem dead_push (h : Heap) (o : Obj) : DeadH h (h.push o) := by
  refine ⟨by rw [Heap.size_push]; exact Nat.le_succ _, fun a ha e => ?_⟩
  rw [← e]
  obtain ⟨objs, l⟩ := h
  unfold Heap.get? Heap.push
  have ha : a < objs.size := ha
  dsimp only
  rw [Array.getElem?_push_lt ha]
  simp [ha]
theorem dead_update {h : Heap} {b : Addr} {f : Obj → Obj} (hb : (h.get? b).isSome) : DeadH h (h.update b f) := by
  have hsz : (h.update b f).objs.size = h.objs.size := by
    obtain ⟨objs, l⟩ := h
    show (objs.modify b f).size = _
    simp
  refine ⟨by rw [hsz]; exact Nat.le_refl _, fun a ha e => ?_⟩
  by_cases hab : a = b
  · rw [hab] at e
    rw [e] at hb
    cases hb
  · exact (Heap.get?_update_other _ _ (Ne.symm hab)).trans e
theorem runs_dead {M : Model} {Γ : PySem.Ctx} {p : Pos} {t : Sem PySem.Fin} {fs : List Frame} {s s' : Shared} {e : End} (h : Runs M Γ p t fs s e s') : DeadH s.heap s'.heap := by
  induction h <;> first
    | exact DeadH.refl _
    | (rename_i ih; exact ih)
    | (rename_i hb _ ih; exact (dead_update hb).trans ih)
    | (rename_i ih; exact (dead_push _ _).trans ih)
    | (rename_i ih1 ih2; exact DeadH.trans ih1 ih2)
    | (rename_i ih1 _ ih2; exact DeadH.trans ih1 ih2)
    | (rename_i ih1 _ _ ih2; exact DeadH.trans ih1 ih2)
theorem wakes_dead {M : Model} {Γ : PySem.Ctx} {p : Pos} {g : Nat} {r : Resume} {s s' : Shared} {res : GenResult} (h : Wakes M Γ p g r s res s') : DeadH s.heap s'.heap := by
  unfold Wakes at h
  split at h
  · exact h.elim
  · split at h
    · obtain ⟨_, _, hr, _, _, rfl⟩ := h
      have d := runs_dead hr
      exact d
    · rw [h.2]; exact DeadH.refl _
    · rw [h.2]; exact DeadH.refl _
  · obtain ⟨_, _, hr, _, _, rfl⟩ := h
    have d := runs_dead hr
    exact d
  · rw [h.2]; exact DeadH.refl _
  · rw [h.2]; exact DeadH.refl _
theorem wp_dead {α : Type} (M : Model) (Γ : PySem.Ctx) (h0 : Heap) (t : Sem α) : ∀ (Q : α → Pos → Shared → Prop) (E : Value → Pos → Shared → Prop) (p : Pos) (s : Shared), DeadH h0 s.heap → wp M Γ t Q E p s →
    wp M Γ t (fun a q z => DeadH h0 z.heap ∧ Q a q z) (fun x q z => DeadH h0 z.heap ∧ E x q z) p s := by
  induction t with
  | pure a => exact fun Q E p s d h => ⟨d, h⟩
  | raise x => exact fun Q E p s d h => ⟨d, h⟩
  | unsupported _ => exact fun Q E p s _ h => h
  | finish _ => exact fun Q E p s _ h => h
  | rule _ k ih => exact fun Q E p s d h => ih () Q E p s d h
  | «at» q k ih => exact fun Q E p s d h => ih () Q E q s d h
  | load a _ k ih => exact fun Q E p s d ⟨o, ho, h⟩ => ⟨o, ho, ih o Q E p s d h⟩
  | update a _ f k ih => exact fun Q E p s d h => ⟨h.1, ih () Q E p _ (d.trans (dead_update (by obtain ⟨h1, _⟩ := h; first | exact h1 | (obtain ⟨o, ho⟩ := h1; rw [ho]; rfl)))) h.2⟩
  | loadIfAlive a k ih => exact fun Q E p s d h => ih _ Q E p s d h
  | point _ k ih => exact fun Q E p s d h => ih () Q E p s d h
  | register _ _ => exact fun Q E p s _ h => h
  | alloc o k ih => exact fun Q E p s d h => ih _ Q E p _ (d.trans (dead_push _ _)) h
  | fresh k ih => exact fun Q E p s d h => ih _ Q E p _ d h
  | ask k ih => exact fun Q E p s d h => ih _ Q E p s d h
  | choose _ _ k ih => exact fun Q E p s d h => ⟨h.1, ih _ Q E p _ d h.2⟩
  | os _ _ k ih => exact fun Q E p s d h => ih _ Q E p _ d h
  | call _ _ _ _ k ih => exact fun Q E p s d ⟨r, z, hr, h⟩ => ⟨r, z, hr, ih r Q E p z (d.trans (runs_dead hr)) h⟩
  | handled _ k ih => exact fun Q E p s d h => ih _ Q E p s d h
  | genState _ k ih => exact fun Q E p s d ⟨st, hs, h⟩ => ⟨st, hs, ih _ Q E p s d h⟩
  | newGen _ k ih => exact fun Q E p s d h => ih _ Q E p _ d h
  | resume _ _ _ k ih => exact fun Q E p s d ⟨r, z, hw, h⟩ => ⟨r, z, hw, ih r Q E p z (d.trans (wakes_dead hw)) h⟩
  | yield _ _ _ _ => exact fun Q E p s _ h => h
  | stack k ih => exact fun Q E p s d h => ih _ Q E p s d h
  | fork _ _ => exact fun Q E p s _ h => h
  | thread k ih => exact fun Q E p s d h => ih _ Q E p s d h
  | await _ _ _ _ _ => exact fun Q E p s _ h => h
/-- what is said of the run besides -/
theorem wpAny_dead {α : Type} {M : Model} {A : Around} {s : Shared} {t : Sem α} {Q : α → Shared → Prop} {E : Value → Shared → Prop} (h : wpAny M A t (fun a s' => DeadH s.heap s'.heap → Q a s') E s) : wpAny M A t Q E s :=
  wpAny_mono (fun Γ p hΓ => wp_dead M Γ s.heap t _ _ p s (DeadH.refl _) (h Γ p hΓ) : wpAny M A t (fun a s' => DeadH s.heap s'.heap ∧ (DeadH s.heap s'.heap → Q a s')) (fun x s' => DeadH s.heap s'.heap ∧ E x s') s) (fun _ _ z => z.2 z.1) fun _ _ z => z.2
/-! ### a tuple's iterator -/
abbrev tupIt (a : Addr) (i : Nat) : Obj := { cls := .type "tuple_iterator", data := .fields #[.ref a, .int i 0] }
def TItO (a it : Addr) : HO := .ext fun h => h.get? it = some (tupIt a 0)
theorem titO_ok {P : Program} {w : World} {H : Hp} {h : Heap} {a it : Addr} (e : h.get? it = some (tupIt a 0)) : ObjOk P w H h it (TItO a it) := ⟨e, ⟨_, e⟩, fun h1 h2 q k => k _ q⟩
/-- iter(the tuple at p) -/
structure IterT (K : Frag) (H : Hp) (p : Addr) (Q : V → Hp → Prop) : Prop where
  ex : ∃ xs, SqT K H p xs ∧ ∀ it, H it = none → Q (.ref it) (upd H it (TItO p it))
def cIter (K : Frag) : List V → Hp → VK → Prop := fun xs H Q => match xs with
  | [.ref p] => IterT K H p Q
  | _ => False
theorem c_iter {X : Cx} : CallR X (.builtin "iter") (cIter X.K) := by
  intro pins s σ H xs us Q I r h
  match xs, h with
  | [.ref p], ⟨⟨ys, hx, q⟩⟩ =>
    obtain ⟨u, rfl, ru⟩ := r.one
    cases ru
    obtain ⟨its, rv, ht, hz⟩ := I.tuple hx
    refine Calls.call_function_entry (by decide +kernel) (by decide +kernel) PySem.W.kdk_entry_iter (PySem.W.kdk_args_iter _) ?_
    unfold Builtin.«iter»
    refine wpAny_bind (m := someArgs "iter" 1 2 _) (wpAny_of_eq (a := [Value.ref p]) (by first | rfl | kernel_rfl!) ?_)
    show wpAny _ _ (pyIter (.ref p) >>= _) _ _ _
    refine wpAny_bind (wpAny_pyIter_tuple (show s.heap.IsTuple p its.toArray from ht) ?_)
    refine wpAny_pure ⟨_, rfl, ?_⟩
    exact ⟨.ref s.heap.objs.size, _, I.laid (t' := s.toks) (fun b u e => Heap.get?_push_of_some _ e) (Nat.le_refl _) (titO_ok (Heap.get?_push_size _ rfl)), rfl, q _ (I.hok.fresh (Nat.le_refl _))⟩
/-- forgotten -/
def dropH (H : Hp) (a : Addr) : Hp := fun b => if b = a then none else H b
theorem dropH_same {H : Hp} {a : Addr} : dropH H a a = none := by unfold dropH; rw [if_pos rfl]
theorem dropH_ne {H : Hp} {a b : Addr} (h : b ≠ a) : dropH H a b = H b := by unfold dropH; rw [if_neg h]
theorem inv_drop {X : Cx} {pins : List (Addr × Obj)} {σ : L2.St} {H : Hp} {s : Shared} {a t : Addr} (I : Inv X pins σ H s) (h : H a = some (TItO t a)) : Inv X pins σ (dropH H a) s := by
  have keep : ∀ b u, H b = some u → (∀ φ, u ≠ .ext φ) → dropH H a b = some u := fun b u e n => by
    rw [dropH_ne fun z => by rw [z, h] at e; exact n _ (Option.some.inj e).symm]
    exact e
  have non : ∀ b, H b = none → dropH H a b = none := fun b e => by
    by_cases hb : b = a
    · rw [hb, dropH_same]
    · rw [dropH_ne hb]; exact e
  refine I.un (t' := s.toks) (H' := dropH H a) (h' := s.heap) ⟨fun _ _ e _ _ _ => e, fun _ o e _ _ _ => ⟨o.slots, e⟩, fun b _ _ z _ => non b z, fun _ o e _ => ⟨o, e⟩, fun b xs z => keep b _ z fun _ w => (nomatch w), fun b o x z => keep b _ z fun _ w => (nomatch w), fun b ps z => ⟨#[], by rw [keep b _ z fun _ w => (nomatch w)]; simp⟩⟩ ?_
  intro b u e
  have hb : b ≠ a := fun z => by rw [z, dropH_same] at e; cases e
  rw [dropH_ne hb] at e
  exact (I.hok b u e).stay (fun _ _ _ z => z) (fun c z => keep c _ z fun _ w => (nomatch w)) fun c xs z => keep c _ z fun _ w => (nomatch w)
theorem st_drop {K : Frag} {H : Hp} {a it t : Addr} {xs : List V} (h : SqT K H a xs) (hi : H it = some (TItO t it)) : SqT K (dropH H it) a xs := by
  rcases h with (h | ⟨o, h⟩) | h
  · exact .inl (.inl (by rw [dropH_ne fun z => by rw [z, hi] at h; cases h]; exact h))
  · exact .inl (.inr ⟨o, by rw [dropH_ne fun z => by rw [z, hi] at h; cases h]; exact h⟩)
  · exact .inr h
theorem same_drop {H H' : Hp} {it : Addr} (e : Same H H') (n : H it = none) : Same H (dropH H' it) := fun b o h => by
  rw [dropH_ne (ne_of_none h n)]
  exact e b o h
/-- the iterator that an own __iter__ handed out, by a run of it from a heap -/
structure OIt (K : Frag) (H : Hp) (R : Addr → List V → Hp → Prop) (v : V) (H2 : Hp) : Prop where
  ex : ∃ it t xs, v = .ref it ∧ H it = none ∧ H2 it = some (TItO t it) ∧ SqT K H2 t xs ∧ R t xs (dropH H2 it)
theorem OIt.of {K : Frag} {H H2 : Hp} {R : Addr → List V → Hp → Prop} {it t : Addr} {xs : List V} (n : H it = none) (h : H2 it = some (TItO t it)) (hx : SqT K H2 t xs) (q : R t xs (dropH H2 it)) : OIt K H R (.ref it) H2 := ⟨it, t, xs, rfl, n, h, hx, q⟩
section
variable {X : Cx} {k : Nat} {g : Addr} {sp : Sp} {c : Str} {ups fs : List Str} {a : Addr}
/-- the iterator stands beyond all that stood -/
theorem run_iter {pins : List (Addr × Obj)} {σ : L2.St} {H : Hp} {s : Shared} {R : Addr → List V → Hp → Prop} {A : Around} {Q : Value → Shared → Prop} {E : Value → Shared → Prop} (F : FnR X.prog X.w X.K X.mg X.base (L2.CX X.prog X.w) k g sp) (hr : Room k A) (hA : A.frames = X.A.frames) (I : Inv X pins σ H s)
    (h : sp [.ref a] H (OIt X.K H R) E0) (q : ∀ it t xs H2 s2, s.heap.objs.size ≤ it → s2.heap.get? it = some (tupIt t 0) → Inv X pins σ (dropH H2 it) s2 → SqT X.K (dropH H2 it) t xs → R t xs (dropH H2 it) → Q (.ref it) s2) :
    wpAny (model X.prog X.w) A (call (.ref g) [.ref a]) Q E s := by
  have e0 : Env0 X.prog X.w X.K X.mg X.base A X.stack s H := by
    have e := I.env0
    exact ⟨by rw [hA]; exact e.frames, e.mod, e.bs, e.bsz, e.funs, e.frf, e.hok, e.bare⟩
  refine wpAny_dead (wpAny_call (codeAny_mono (F A X.stack s H [.ref a] [.ref a] _ E0 hr e0 (.cons rfl .nil) h) fun r s' hq => ?_))
  cases r with
  | error er =>
    obtain ⟨_, _, _, _, _, _, _, _, _, _, _, _, z⟩ := hq
    exact z.elim
  | ok fl =>
    cases fl with
    | next => exact False.elim hq
    | brk => exact False.elim hq
    | cont => exact False.elim hq
    | ret u =>
      intro dd
      have I0 := I.after hq
      obtain ⟨v, H2, os, bare, un, hok, rv, ⟨it, t, xs, rfl, hn, hi, hx, qq⟩⟩ := hq
      cases rv
      have hok2 : s'.heap.get? it = some (tupIt t 0) := (hok it _ hi).1
      have ge : s.heap.objs.size ≤ it := by
        refine Nat.le_of_not_lt fun hlt => ?_
        cases e : s.heap.get? it with
        | none => rw [dd.no it hlt e] at hok2; cases hok2
        | some o => rw [un.free it o e hn (by simp)] at hi; cases hi
      obtain ⟨hh, gg, d', t', os'⟩ := s'
      obtain rfl : os' = s.os := os
      have I2 : Inv X pins σ H2 { s with heap := hh, gens := gg, drawn := d', toks := t' } := I.call (h' := hh) (g' := gg) (d' := d') (t' := t') (ch := []) un hok bare fun b z => absurd z (by simp)
      exact q it t xs H2 _ ge hok2 (inv_drop I2 hi) (st_drop hx hi) qq
theorem owit_tup {M : Model} {A : Around} {Q : Value → Shared → Prop} {E : Value → Shared → Prop} {s : Shared} {it t : Addr} (h : s.heap.get? it = some (tupIt t 0)) (q : Q (.ref it) s) : PySem.W.OwitIt M A Q E (.ref it) s := by
  unfold PySem.W.OwitIt
  exact wpAny_specialOf (show s.TypeIs (.ref it) "tuple_iterator" from ⟨_, h, rfl⟩) F.slot_tuple_iterator_next.lookup q
/-- for .. in o -/
structure OwnI (K : Frag) (c : Str) (sp : Sp) (H : Hp) (a : Addr) (R : It → Hp → Prop) : Prop where
  ex : (∃ dx as, H a = some (.ins (He.ga K c) dx as)) ∧ sp [.ref a] H (OIt K H fun t _ H2 => R (Itt K t) H2) E0
theorem OwnI.of {K : Frag} {H : Hp} {R : It → Hp → Prop} {dx : Addr} {as : List (Str × V)} (h : H a = some (.ins (He.ga K c) dx as)) (q : sp [.ref a] H (OIt K H fun t _ H2 => R (Itt K t) H2) E0) : OwnI K c sp H a R := ⟨⟨dx, as, h⟩, q⟩
/-- over a list, a tuple, an instance of c -/
structure WalkI (K : Frag) (c : Str) (sp : Sp) (H : Hp) (a : Addr) (R : It → Hp → Prop) : Prop where
  ex : Walk K H a R ∨ OwnI K c sp H a R
def iOwn (K : Frag) (c : Str) (sp : Sp) (te : TE) : TI := fun σ H R => te σ H fun x H1 => match x with
  | .ref a => WalkI K c sp H1 a R
  | _ => False
theorem pi_own {e : Expr} {tg : Expr} {te : TE} (D : DF X.K c ups fs) (hm : Meth X.K (He.ga X.K c) "__iter__" g) (F : FnR X.prog X.w X.K X.mg X.base (L2.CX X.prog X.w) k g sp) (hr : Room k X.A) (he : PE X e te) : PI X tg e (iOwn X.K c sp te) := by
  refine ⟨fun pins s σ H R I h => ?_⟩
  refine thn (he.run pins s σ H _ I h) fun v s1 ⟨x, H1, I1, r1, q1⟩ => ?_
  cases x <;> try exact q1.elim
  rename_i a
  rcases q1.ex with q1 | q1
  · cases r1
    rcases q1.ex with ⟨⟨xs, hq⟩, q⟩ | ⟨⟨xs, hq⟩, q⟩
    · obtain ⟨its, rv, p, hz⟩ := I1.list hq
      refine wpAny_pyIter_list p.isList ?_
      refine ⟨s1.heap.objs.size, [s1.heap.objs.size], _, _, H1, rfl, I1.kept (t' := s1.toks) fun b o e => Heap.get?_push_of_some _ e, turn_list _ _, ⟨_, Heap.get?_push_size _ rfl, rfl, rfl⟩, fun b hb => ?_, q⟩
      have e : b = s1.heap.objs.size := by simpa using hb
      subst e
      exact I1.fpOk (Nat.le_refl _) (I1.hok.fresh (Nat.le_refl _))
    · obtain ⟨its, rv, p, hz⟩ := I1.tuple hq
      refine wpAny_pyIter_tuple (show s1.heap.IsTuple _ its.toArray from p) ?_
      refine ⟨s1.heap.objs.size, [s1.heap.objs.size], _, _, H1, rfl, I1.kept (t' := s1.toks) fun b o e => Heap.get?_push_of_some _ e, turn_tuple _ _, ⟨_, Heap.get?_push_size _ rfl, rfl, rfl⟩, fun b hb => ?_, q⟩
      have e : b = s1.heap.objs.size := by simpa using hb
      subst e
      exact I1.fpOk (Nat.le_refl _) (I1.hok.fresh (Nat.le_refl _))
  · cases r1
    obtain ⟨⟨dx, as, ha⟩, q⟩ := q1.ex
    obtain ⟨mA, J, _⟩ := ins_get I1.hok ha
    obtain ⟨od, J, _⟩ := J.look
    obtain ⟨m, hF⟩ := I1.fr
    refine PySem.W.owit_iter hF I1.ok.mod.kin J hm.at_ hm.fn ?_
    refine run_iter F hr rfl I1 q fun it t xs H2 s2 ge hi I2 hx qq => owit_tup hi ?_
    refine ⟨it, [it], _, _, dropH H2 it, rfl, I2, turn_tuple _ _, ⟨_, hi, rfl, rfl⟩, fun b hb => ?_, qq⟩
    have e : b = it := by simpa using hb
    subst e
    exact I1.fpOk ge dropH_same
end
end S
namespace S
open PySem PySem.Spec PyProof.Rows L2
open Sem (wp)
/-- a class with an own __iter__, without __len__ and __length_hint__ -/
structure ItD (K : Frag) (c : Str) (g : Addr) : Prop where
  it : Meth K (He.ga K c) "__iter__" g
  nolen : PySem.W.findIn K (.ref (He.ga K c)) "__len__" = some none
  nohint : PySem.W.findIn K (.ref (He.ga K c)) "__length_hint__" = some none
section
variable {X : Cx} {k : Nat} {g : Addr} {sp : Sp} {c : Str} {ups fs : List Str} {a : Addr}
theorem own_hintD {M : Model} {A : Around} {E : Value → Shared → Prop} {s : Shared} {Q : Bool → Shared → Prop} {K : PySem.W.Frag} {ox : Obj} {od : Option Obj} (hc : ItD K c g) (hK : K.In s.heap) (J : PySem.W.InstAt s.heap a ox (He.ga K c) od) (h : Q true s) :
    wpAny M A (Builtin.List.listLengthHint (.ref a)) Q E s := by
  unfold Builtin.List.listLengthHint
  refine wpAny_bind (wpAny_bind (J.type.here ((PySem.W.looks_findIn hK hc.nolen).here ?_)))
  refine PySem.W.KFB.if_not rfl ?_
  refine PySem.W.KFB.if_not rfl ?_
  refine wpAny_bind (wpAny_bind (J.type.here ((PySem.W.looks_findIn hK hc.nohint).here ?_)))
  exact wpAny_pure h
theorem tup_loop1 {pins : List (Addr × Obj)} {σ : L2.St} {A1 : Around} {Rs : Result → Shared → Prop} {q it t : Addr} {xs : List V} {H : Hp} (hA : A1.handled = none) (hf : FpOk X pins H it) (hx : SqT X.K H t xs) (hq0 : H q = some (.lst []))
    (hdone : ∀ s, Inv X pins σ (upd H q (.lst xs)) s → Rs (.ok (.ret .none)) s) :
    ∀ (m i : Nat) (s : Shared), i + m = xs.length → Inv X pins σ (upd H q (.lst (xs.take i))) s → s.heap.IsTupleIter it t i → codeAny (model X.prog X.w) A1 (.builtin "list.extend.loop" ⟨[.ref q, .ref it, .none], []⟩) Rs s := by
  intro m
  have hne : q ≠ it := fun z => by rw [z, hf.1] at hq0; cases hq0
  have hf2 : ∀ i, FpOk X pins (upd H q (.lst (xs.take i))) it := fun i => by
    obtain ⟨f0, f1, f2, f3, f4, f5⟩ := hf
    exact ⟨by rw [upd_ne (Ne.symm hne)]; exact f0, f1, f2, f3, f4, f5⟩
  have hx2 : ∀ i, SqT X.K (upd H q (.lst (xs.take i))) t xs := fun i => (SameX.upd (st := q) (H := H)).tup hx hq0
  induction m with
  | zero =>
    intro i s hi I st
    refine codeAny_builtin PySem.F.entry_extend_loop ?_
    rw [Around.under_plainId PySem.F.plain_extend_loop _]
    show wpAny _ A1.in1 (pyNext (.ref it) >>= _) _ _ s
    obtain ⟨its, rv, p, hz⟩ := I.tuple (hx2 i)
    have hl := rv.length
    obtain ⟨f0, f1, f2, f3, f4, f5⟩ := hf2 i
    refine wpAny_bind (wpAny_pyNext_tuple_end hA st (show s.heap.IsTuple t its.toArray from p) (by simp; omega) fun h' eb => ?_)
    have I1 : Inv X pins σ _ { s with heap := h' } := I.turned (t' := s.toks) (fun b o hb e => eb b o hb e) f0 f1 f3 f4 f5
    have e : xs.take i = xs := List.take_of_length_le (by omega)
    rw [e] at I1
    exact wpAny_pure (hdone _ I1)
  | succ m ih =>
    intro i s hi I st
    refine codeAny_builtin PySem.F.entry_extend_loop ?_
    rw [Around.under_plainId PySem.F.plain_extend_loop _]
    show wpAny _ A1.in1 (pyNext (.ref it) >>= _) _ _ s
    obtain ⟨its, rv, p, hz⟩ := I.tuple (hx2 i)
    have hl := rv.length
    obtain ⟨f0, f1, f2, f3, f4, f5⟩ := hf2 i
    obtain ⟨x, hxi⟩ : ∃ x, xs[i]? = some x := ⟨xs[i]'(by omega), List.getElem?_eq_getElem (by omega)⟩
    obtain ⟨u, hu, ru⟩ := rv.get hxi
    refine wpAny_bind (wpAny_pyNext_tuple_item st (show s.heap.IsTuple t its.toArray from p) (x := u) (by simpa using hu) fun h' st' sb => ?_)
    have I1 : Inv X pins σ _ { s with heap := h' } := I.turned (t' := s.toks) (fun b o hb e => (sb.2 b hb).trans e) f0 f1 f3 f4 f5
    show wpAny _ A1.in1 (updateSeq q (·.push u) >>= _) _ _ _
    obtain ⟨z, its2, k2, r2, hl2, e⟩ := I1.lstM (l := q) upd_same
    have hlen := r2.length
    have hlx : xs.length ≤ sizeLine := hz
    rw [List.length_take] at hlen
    refine wpAny_bind (wpAny_updateSeq e rfl (wpAny_pure ⟨plainId_quiet PySem.F.plain_extend_loop _, ?_⟩) (by rw [List.size_toArray]; omega) (by show (its2.toArray.push u).size ≤ sizeLine + 1; rw [Array.size_push, List.size_toArray]; omega))
    have I2 := I1.lset (f := (·.push u)) (its' := its2 ++ [u]) (ys := xs.take i ++ [x]) (t' := s.toks) upd_same e (by simp) (r2.append (.cons ru .nil)) (by rw [List.length_append, List.length_singleton, List.length_take]; omega)
    rw [upd_upd] at I2
    have ex : xs.take i ++ [x] = xs.take (i + 1) := by rw [List.take_add_one, hxi]; rfl
    rw [ex] at I2
    refine ih (i + 1) _ (by omega) I2 ?_
    obtain ⟨o, eo, cc, dd⟩ := st'
    exact ⟨o, (Heap.get?_update_other _ _ hne).trans eo, cc, dd⟩
/-- list(o) -/
structure ListO (K : Frag) (c : Str) (sp : Sp) (H : Hp) (a : Addr) (Q : VK) : Prop where
  ex : (∃ dx as, H a = some (.ins (He.ga K c) dx as)) ∧ ∀ q, H q = none → sp [.ref a] (upd H q (.lst [])) (OIt K (upd H q (.lst [])) fun _ xs H2 => H2 q = some (.lst []) ∧ (∃ dx as, H2 a = some (.ins (He.ga K c) dx as)) ∧ Q (.ref q) (upd H2 q (.lst xs))) E0
theorem ListO.of {K : Frag} {sp : Sp} {H : Hp} {Q : VK} {dx : Addr} {as : List (Str × V)} (h : H a = some (.ins (He.ga K c) dx as)) (q : ∀ q, H q = none → sp [.ref a] (upd H q (.lst [])) (OIt K (upd H q (.lst [])) fun _ xs H2 => H2 q = some (.lst []) ∧ (∃ dx as, H2 a = some (.ins (He.ga K c) dx as)) ∧ Q (.ref q) (upd H2 q (.lst xs))) E0) : ListO K c sp H a Q := ⟨⟨dx, as, h⟩, q⟩
/-- list of a list, a tuple, an instance of c -/
structure AnyO (K : Frag) (c : Str) (sp : Sp) (H : Hp) (p : Addr) (Q : VK) : Prop where
  ex : (Rd K H p fun ys => NewL H ys Q) ∨ ListO K c sp H p Q
def cListO (K : Frag) (c : Str) (sp : Sp) : List V → Hp → VK → Prop := fun xs H Q => match xs with
  | [.ref p] => AnyO K c sp H p Q
  | _ => False
theorem c_listO (D : DF X.K c ups fs) (hc : ItD X.K c g) (F : FnR X.prog X.w X.K X.mg X.base (L2.CX X.prog X.w) k g sp) (hr : Room (k + 2) X.A) (hC : X.calm = true := by rfl) : CallR X (.type "list") (cListO X.K c sp) := by
  intro pins s σ H xs us Q I rv h
  match xs, h with
  | [.ref a], h =>
  rcases h.ex with h | ⟨⟨dx, fs, ha⟩, hq⟩
  · exact c_list pins s σ H [.ref a] us Q I rv h
  obtain ⟨u, rfl, ru⟩ := rv.one
  cases ru
  have sb : Sub X k X.A.in1.in1 := (Sub.in1 (Sub.in1 (⟨hr, rfl⟩ : Sub X (k + 2) X.A)))
  refine callType_codes (Q₁ := fun obj s₁ => obj = .ref s.heap.objs.size ∧ s₁ = { s with heap := s.heap.push { cls := .type "list", data := .seq #[] } }) PySem.F.called_list (PySem.F.typeCall_list_1 _) PySem.F.entry_list_init
    (code_list_new _ ⟨rfl, rfl⟩) fun obj s₁ h₁ => ?_
  obtain ⟨rfl, rfl⟩ := h₁
  have hS : (s.heap.push { cls := .type "list", data := .seq #[] }).get? s.heap.objs.size = some { cls := .type "list", data := .seq #[] } := Heap.get?_push_size _ rfl
  refine ⟨⟨_, hS, rfl⟩, PySem.F.args_list_init_2 _ _, ?_⟩
  have fr : H s.heap.objs.size = none := I.hok.fresh (Nat.le_refl _)
  have hsp := hq _ fr
  have I1 : Inv X pins σ (upd H s.heap.objs.size (.lst [])) { s with heap := s.heap.push { cls := .type "list", data := .seq #[] } } := I.lnew (its := []) (t' := s.toks) .nil (Nat.zero_le _)
  show wpAny _ _ (do let old ← Builtin.List.listItems (.ref s.heap.objs.size); Builtin.List.listUpdate (.ref s.heap.objs.size) (fun _ => #[]); letGo old.toList.reverse; Builtin.List.listExtendWith (.ref s.heap.objs.size) (.ref a) .none) _ _ _
  refine wpAny_bind ?_
  unfold Builtin.List.listItems
  refine wpAny_bind (wpAny_seqItems hS rfl (wpAny_pure ?_))
  show wpAny _ _ (updateSeq s.heap.objs.size (fun _ => #[]) >>= fun _ => letGo (#[] : Array Value).toList.reverse >>= fun _ => Builtin.List.listExtendWith (.ref s.heap.objs.size) (.ref a) .none) _ _ _
  refine wpAny_bind (wpAny_updateSeq hS rfl ?_)
  have I2 := I1.lset (f := fun _ => #[]) (its := []) (its' := []) (ys := []) (t' := s.toks) upd_same hS rfl .nil (Nat.zero_le _)
  rw [upd_upd] at I2
  refine wpAny_bind (wpAny_letGo ?_)
  have ha2 : upd H s.heap.objs.size (.lst []) a = some (.ins (He.ga X.K c) dx fs) := by rw [upd_ne (ne_of_none ha fr)]; exact ha
  have hne : s.heap.objs.size ≠ a := fun z => by rw [z, ha] at fr; cases fr
  have hlq : upd H s.heap.objs.size (.lst ([] : List V)) s.heap.objs.size = some (.lst []) := upd_same
  have hgo : ∀ (H1 : Hp) (s1 : Shared) (q : Addr), q ≠ a → H1 a = some (.ins (He.ga X.K c) dx fs) → Inv X pins σ H1 s1 →
      sp [.ref a] H1 (OIt X.K H1 fun _ xs H2 => H2 q = some (.lst []) ∧ (∃ dx as, H2 a = some (.ins (He.ga X.K c) dx as)) ∧ Q (.ref q) (upd H2 q (.lst xs))) E0 →
      wpAny (model X.prog X.w) X.A.in1.in1 (Builtin.List.listExtendWith (.ref q) (.ref a) .none)
        (fun fin s' => match fin with | .done f => wants (fun r s₂ => r = .none ∧ EP X pins σ Q (.ref q) s₂) X.xe (.ok f) s' | .again c' => c'.quiet = true ∧ codeAny (model X.prog X.w) X.A.in1 c' (wants (fun r s₂ => r = .none ∧ EP X pins σ Q (.ref q) s₂) X.xe) s') (fun e s' => wants (fun r s₂ => r = .none ∧ EP X pins σ Q (.ref q) s₂) X.xe (.error e) s') s1 := by
    intro H1 s1 q hne ha1 I1 hsp
    obtain ⟨mA, J, _⟩ := ins_get I1.hok ha1
    obtain ⟨od, J, _⟩ := J.look
    obtain ⟨m0, hF⟩ := I1.fr
    unfold Builtin.List.listExtendWith
    refine wpAny_bind (J.type.here ?_)
    have h1 : Builtin.List.listSameRef (.ref q) (.ref a) = false := by simp [Builtin.List.listSameRef, hne]
    have h2 : (Value.ref (He.ga X.K c) == Value.type "list") = false := rfl
    have h3 : (Value.ref (He.ga X.K c) == Value.type "tuple") = false := rfl
    simp only [h1, h2, h3, Bool.or_false, Bool.false_eq_true, if_false]
    refine wpAny_bind (PySem.W.owit_iter hF I1.ok.mod.kin J hc.it.at_ hc.it.fn ?_)
    refine run_iter (A := X.A.in1.in1) F sb.room (by rw [sb.fr]) I1 hsp fun it t xs H2 s2 ge hi I2 hx qq => owit_tup hi ?_
    obtain ⟨hq2, ⟨dx2, fs2, ha3⟩, qq⟩ := qq
    obtain ⟨mA', J', _⟩ := ins_get I2.hok ha3
    obtain ⟨od', J', _⟩ := J'.look
    refine wpAny_bind (wpAny_holding (own_hintD hc I2.kIn J' ?_))
    obtain ⟨z, its, k3, r3, hl3, e3⟩ := I2.lstM hq2
    cases r3
    have hne2 : q ≠ it := fun z => by rw [z, dropH_same] at hq2; cases hq2
    have st : s2.heap.IsTupleIter it t 0 := ⟨_, hi, rfl, rfl⟩
    have hf : FpOk X pins (dropH H2 it) it := I1.fpOk ge dropH_same
    have hH : upd (dropH H2 it) q (.lst []) = dropH H2 it := by
      funext b
      by_cases hb : b = q
      · rw [hb, upd_same, hq2]
      · rw [upd_ne hb]
    have fin := tup_loop1 (pins := pins) (σ := σ) (A1 := X.A.in1) (Rs := wants (fun r s₂ => r = .none ∧ EP X pins σ Q (.ref q) s₂) X.xe) (I2.ok.hd hC) hf hx hq2
      (fun s3 I3 => ⟨rfl, .ref q, _, I3, rfl, qq⟩) xs.length 0
    refine wpAny_ite_split (fun _ => ?_) (fun _ => wpAny_pure ⟨plainId_quiet PySem.F.plain_extend_loop _, fin s2 (by omega) (by rw [List.take_zero, hH]; exact I2) st⟩)
    refine wpAny_bind (wpAny_rule ?_)
    refine wpAny_bind ?_
    show wpAny _ _ (updateSeq q (·.push .none) >>= fun _ => updateSeq q (·.pop)) _ _ _
    refine wpAny_bind (wpAny_updateSeq e3 rfl ?_)
    have I3 := I2.lset (f := (·.push Value.none)) (its' := [Value.none]) (ys := [.non]) (t' := s2.toks) hq2 e3 (by simp) (.cons rfl .nil) (by rw [List.length_singleton, sizeLine_eq]; decide)
    obtain ⟨z4, its4, k4, r4, hl4, e4⟩ := I3.lstM upd_same
    obtain ⟨u4, rfl, ru4⟩ := r4.one
    refine wpAny_updateSeq e4 rfl ?_ (by show 1 ≤ sizeLine; rw [sizeLine_eq]; decide) (by show 0 ≤ sizeLine + 1; exact Nat.zero_le _)
    have I4 := I3.lset (f := (·.pop)) (its := [u4]) (its' := []) (ys := []) (t' := s2.toks) upd_same e4 (by rfl) .nil (Nat.zero_le _)
    rw [upd_upd] at I4
    refine wpAny_pure ⟨plainId_quiet PySem.F.plain_extend_loop _, fin _ (by omega) (by rw [List.take_zero]; exact I4) ?_⟩
    obtain ⟨o, eo, cc, dd⟩ := st
    exact ⟨o, (Heap.get?_update_other _ _ hne2).trans ((Heap.get?_update_other _ _ hne2).trans eo), cc, dd⟩
  exact hgo _ _ _ hne ha2 I2 hsp
end
end S
namespace S
open PySem PySem.Spec PyProof.Rows L2
/-- == of data, or of lists with the very same objects -/
structure EqS (K : Frag) (H : Hp) (a b : Addr) (k : Bool → Prop) : Prop where
  ex : EqD K H (.ref a) (.ref b) k ∨ ∃ ps : List Addr, SqL K H a (ps.map V.ref) ∧ SqL K H b (ps.map V.ref) ∧ k true
def oNeS (K : Frag) : R2 := fun x y H Q => match x, y with
  | .ref a, .ref b => EqS K H a b fun r => Q (.bl (!r)) H
  | x, y => oNe K x y H Q
theorem refs_vals : ∀ {ps : List Addr} {us : List Value}, Vals (ps.map V.ref) us → us = ps.map Value.ref
  | [], _, .nil => rfl
  | p :: ps, _, .cons h t => by
    cases h
    rw [refs_vals t]
    rfl
theorem op_neS {X : Cx} (hu : X.A.units + 64 < cLine) : OpR X (compareOp .NotEq) (oNeS X.K) := by
  have h0 : OpR X (compareOp .NotEq) (oNe X.K) := o_ne hu
  intro pins s σ H x y v u Q I rx ry q
  have two : ∀ a b, x = .ref a → y = .ref b → (EqS X.K H a b fun r => Q (.bl (!r)) H) → wpAny (model X.prog X.w) X.A (compareOp .NotEq v u) (EP X pins σ Q) X.xe s := by
    intro a b ex ey q1
    clear q
    subst ex ey
    rcases q1.ex with q | ⟨ps, ha, hb, q⟩
    · exact h0 pins s σ H _ _ v u Q I rx ry (show oNe X.K (.ref a) (.ref b) H Q from q)
    · cases rx
      cases ry
      obtain ⟨its, rv, e, z⟩ := I.list ha
      obtain ⟨its2, rv2, e2, z2⟩ := I.list hb
      obtain rfl := refs_vals rv
      obtain rfl := refs_vals rv2
      have hh := PySem.SeqAt.RcNeAt.lists (A := X.A) (s := s) (e := fun _ => true) e.isList e2.isList rfl (by omega) (fun j h1 h2 => SeqAt.EqAt.same _)
      rw [show (List.range (ps.map Value.ref).toArray.size).all (fun _ => true) = true from List.all_eq_true.mpr fun _ _ => rfl] at hh
      exact hh X.prog X.w _ _ ⟨.bl false, H, I, rfl, q⟩
  cases x <;> cases y <;> first | exact two _ _ rfl rfl q | exact h0 pins s σ H _ _ v u Q I rx ry q
end S
namespace S
open PySem PySem.Spec PyProof.Rows L2
abbrev Rw : Type := V × List Int
def leR (p q : Rw) : Bool := decide (p.2 ≤ q.2)
theorem tupLe : PySem.W.dataLe false (fun b : Rw => .tuple (b.2.map .int)) = leR := by
  funext p q
  show (!PySem.W.dataLt (.tuple (q.2.map .int)) (.tuple (p.2.map .int))) = _
  rw [PySem.W.dataLt_tuple]
  show (!PySem.W.rowLt (q.2.map .int) (p.2.map .int)) = _
  rw [PySem.W.dataLt_ints]
  unfold leR
  by_cases h : q.2 < p.2
  · have h' : ¬ p.2 ≤ q.2 := fun r => List.not_lt.mpr r h
    simp [h, h']
  · have h' : p.2 ≤ q.2 := List.not_lt.mp h
    simp [h, h']
theorem each_of : ∀ {bs : List Rw} {us : List Value}, Vals (bs.map (·.1)) us → PySem.W.EachIs (fun u (b : Rw) => L2.RelV b.1 u) us bs
  | [], _, .nil => .nil
  | _ :: _, _, .cons h t => .cons h (each_of t)
theorem of_each : ∀ {bs : List Rw} {us : List Value}, PySem.W.EachIs (fun u (b : Rw) => L2.RelV b.1 u) us bs → Vals (bs.map (·.1)) us
  | [], _, .nil => .nil
  | _ :: _, _, .cons h t => .cons h (of_each t)
theorem dpAll_ints {K : Frag} {H : Hp} : ∀ ns : List Int, DpAll K H (ns.map V.int) (ns.map PyData.int)
  | [] => .nil
  | n :: ns => .cons (.int n) (dpAll_ints ns)
theorem leR_trans (a b c : Rw) (h1 : leR a b = true) (h2 : leR b c = true) : leR a c = true := decide_eq_true (List.le_trans (of_decide_eq_true h1) (of_decide_eq_true h2))
theorem leR_total (a b : Rw) : (leR a b || leR b a) = true := by
  rcases List.le_total a.2 b.2 with h | h
  · simp [leR, h]
  · simp [leR, h]
structure SrtT (K : Frag) (H : Hp) (p : Addr) (Q : VK) : Prop where
  ex : Srt K H p Q ∨ ∃ bs : List Rw, SqL K H p (bs.map (·.1)) ∧ (∀ b ∈ bs, b.2 ≠ [] ∧ ∃ t, b.1 = .ref t ∧ SqT K H t (b.2.map V.int)) ∧
    ∀ (cs : List Rw) (q : Addr), cs.Perm bs → cs.Pairwise (fun p q => p.2 ≤ q.2) → H q = none → Q (.ref q) (upd H q (.lst (cs.map (·.1))))
def cSortedT (K : Frag) : List V → Hp → VK → Prop := fun xs H Q => match xs with
  | [.ref p] => SrtT K H p Q
  | _ => False
theorem c_sortedT {X : Cx} (hu : X.A.units + 64 < cLine) : CallR X (.builtin "sorted") (cSortedT X.K) := by
  intro pins s σ H xs us Q I r h
  match xs, h with
  | [.ref p], ⟨h⟩ =>
  rcases h with h | ⟨bs, hs, hb, q⟩
  · exact c_sorted pins s σ H [.ref p] us Q I r h
  obtain ⟨its, rv, hl, hz⟩ := I.list hs
  obtain ⟨u, rfl, ru⟩ := r.one
  cases ru
  rw [List.length_map] at hz
  have lv := rv.length
  rw [List.length_map] at lv
  have er : PySem.W.EachIs (fun v (b : Rw) => ∃ as, Reads s.heap v (.tuple (b.2.map .int)) as) its bs := by
    have e := each_of rv
    have go : ∀ {us : List Value} {cs : List Rw}, PySem.W.EachIs (fun u (b : Rw) => L2.RelV b.1 u) us cs → (∀ b ∈ cs, b ∈ bs) → PySem.W.EachIs (fun v (b : Rw) => ∃ as, Reads s.heap v (.tuple (b.2.map .int)) as) us cs := by
      intro us cs e
      induction e with
      | nil => exact fun _ => .nil
      | cons h t ih =>
        intro hm
        refine .cons ?_ (ih fun b hb => hm b (List.mem_cons_of_mem _ hb))
        obtain ⟨_, t, et, ht⟩ := hb _ (hm _ (List.mem_cons_self ..))
        exact Dp.reads I _ _ _ (by rw [et]; exact .tup ht (dpAll_ints _)) h
    exact go e fun _ h => h
  refine PySem.W.sorted_data (enc := fun b : Rw => .tuple (b.2.map .int)) hl.isList (each_of rv) er (PySem.W.AllAlike.of fun b b' => ?_) (.inl fun d hd => ?_) hz (fun b hb => ?_) fun out h1 h2 => ?_
  · have := PySem.W.alike_ints b.2 b'.2
    simpa [PySem.W.alike] using this
  · obtain ⟨b, hm, rfl⟩ := List.mem_map.mp hd
    obtain ⟨ne, _⟩ := hb b hm
    match hbb : b.2 with
    | [] => exact absurd hbb ne
    | x :: r => exact ⟨.int x, r.map .int, rfl⟩
  · have hd : (PyData.tuple (b.2.map .int)).depth ≤ 8 := by
      simp only [PyData.depth, PySem.W.depth_ints]
      omega
    omega
  · rw [tupLe] at h2
    obtain ⟨ep, he'⟩ := PyProof.Rows.sortedAll_at s.heap its out.toArray
    have hp := List.mergeSort_perm bs leR
    have hlen : ((bs.mergeSort leR).map (·.1)).length ≤ sizeLine := by
      rw [List.length_map, hp.length_eq]
      exact hz
    refine ⟨.ref _, upd H (s.heap.objs.size + 1) (.lst ((bs.mergeSort leR).map (·.1))), I.laid (t' := s.toks) (fun _ _ => PyProof.Rows.sortedAll_old) (Nat.le_succ _) ⟨hlen, out, ep, of_each h2, he'⟩, rfl, q _ _ hp ?_ (I.hok.fresh (Nat.le_succ _))⟩
    exact (List.pairwise_mergeSort leR_trans leR_total bs).imp fun h => of_decide_eq_true h
end S
namespace S
open PySem PySem.Spec PyProof.Rows L2
structure InT (K : Frag) (H : Hp) (x : V) (p : Addr) (Q : VK) : Prop where
  ex : (Rd K H p fun xs => Need (flatV x = true ∧ xs.all flatV = true) (Q (.bl (inV x xs)) H)) ∨ rInD K x (.ref p) H Q
def oInT (K : Frag) : R2 := fun x y H Q => match y with
  | .ref p => InT K H x p Q
  | _ => False
theorem op_inT {X : Cx} (hu : X.A.units + 80 < cLine) : OpR X (compareOp .In) (oInT X.K) := by
  intro pins s σ H x y v u Q I rx ry q
  cases y <;> try exact q.elim
  rcases q.ex with q | q
  · exact o_in pins s σ H x _ v u Q I rx ry q
  · exact op_inD (by omega) pins s σ H x _ v u Q I rx ry q
theorem u80 {k : Nat} {A : Around} (r : Room k A) : A.units + 80 < cLine := by have := r.un; omega
def oFdivW : R2 := oI CDivW fun i j => i / j
theorem o_fdivW {X : Cx} : OpR X (binaryOp .FloorDiv) oFdivW := oI_of op_fdivW
def oMulW : R2 := oI CMulW fun i j => i * j
theorem o_mulW {X : Cx} : OpR X (binaryOp .Mult) oMulW := oI_of op_mulW
structure IdxT (K : Frag) (x : V) (xs : List V) (H : Hp) (Q : VK) : Prop where
  ex : rIndexD K x xs H Q
def mIdx (K : Frag) : V → List V → Hp → VK → Prop := fun x xs H Q => IdxT K x xs H Q
theorem m_idx {X : Cx} (hu : X.A.units + 80 < cLine) : MtR X "list.index" (mIdx X.K) := fun pins s σ H x xs v us Q I rx rxs h => mt_indexD (by omega) pins s σ H x xs v us Q I rx rxs h.ex
end S
namespace S
open PySem PySem.Spec PyProof.Rows L2
/-! ### a text walked -/
structure TxR (x : Str) (H : Hp) (R : It → Hp → Prop) : Prop where
  go : R (Its x) H
def iTxt (te : TE) : TI := fun σ H R => te σ H fun v H1 => match v with
  | .str x => TxR x H1 R
  | _ => False
theorem pi_txt {X : Cx} {tg e : Expr} {te : TE} (he : PE X e te) : PI X tg e (iTxt te) := by
  refine ⟨fun pins s σ H R I h => ?_⟩
  refine thn (he.run pins s σ H _ I h) fun v s1 ⟨y, H1, I1, r1, q⟩ => ?_
  cases y <;> try exact q.elim
  rename_i x
  obtain ⟨t, rfl⟩ := r1
  cases ha : x.cps.all (· < 128)
  · exact wpAny_pyIter_wide ha (pi_one (tk := s1.toks) I1 _ (turn_str _ x t "str_iterator" (.inr rfl)) ⟨_, Heap.get?_push_size _ rfl, rfl, rfl⟩ q.go)
  · exact wpAny_pyIter_ascii ha (pi_one (tk := s1.toks) I1 _ (turn_str _ x t "str_ascii_iterator" (.inl rfl)) ⟨_, Heap.get?_push_size _ rfl, rfl, rfl⟩ q.go)
theorem for_txt {x : Str} {g : TG} {tb : TS} {D : L2.Ends} {σ : L2.St} {H : Hp} (Pv : Nat → L2.St → Hp → Prop) (h0 : Pv 0 σ H)
    (hs : ∀ i c σ H, x.cps[i]? = some c → Pv i σ H → g (.str ⟨#[c]⟩) σ H fun σ2 H2 => tb { D with nx := Pv (i + 1), ct := Pv (i + 1), bk := D.nx } σ2 H2) (hd : ∀ σ H, Pv x.cps.size σ H → D.nx σ H) :
    TxR x H (LoopR D g tb σ) := by
  refine ⟨⟨fun i m σ H => m = x.cps.size - i ∧ i ≤ x.cps.size ∧ Pv i σ H, ⟨x.cps.size, by simp, Nat.zero_le _, h0⟩, ?_⟩⟩
  rintro i m σ H ⟨rfl, hi, p⟩
  by_cases hlt : i < x.cps.size
  · refine .inr ⟨hlt, Pv (i + 1), fun σ' H' p' => ⟨x.cps.size - (i + 1), by omega, rfl, hlt, p'⟩, fun y H' hy => ?_⟩
    obtain ⟨rfl, c, hc, rfl⟩ := hy
    exact hs i c σ _ hc p
  · have e : i = x.cps.size := by omega
    subst e
    exact .inl ⟨Nat.le_refl _, hd σ H p⟩
/-- a comprehension over a text: what it keeps -/
theorem lc_txt {x : Str} {i : Nat} {tt : TT} {te : TE} {vs : List Nat} {σ : L2.St} {H1 : Hp} {Q : VK} (hz : x.cps.size < sizeLine) (f : Nat → V) (pr : Nat → Bool)
    (hs : ∀ c H (A : V → Hp → Prop) (B : Hp → Prop), Same H1 H → (pr c = true → A (f c) H) → (pr c = false → B H) → wipe ((wipe σ vs).set i (some (.str ⟨#[c]⟩))) vs = wipe σ vs ∧ tt ((wipe σ vs).set i (some (.str ⟨#[c]⟩))) H fun b H3 => if b = true then te ((wipe σ vs).set i (some (.str ⟨#[c]⟩))) H3 A else B H3)
    (hd : ∀ D H', H1 D = none → H' D = some (.lst ((x.cps.toList.filter pr).map f)) → Same H1 H' → Q (.ref D) H') :
    TxR x H1 (Wr (LcGo (gName i) tt te vs σ Q)) := by
  refine ⟨⟨fun D hD => ?_⟩⟩
  refine ⟨fun i m H => m = x.cps.size - i ∧ i ≤ x.cps.size ∧ H D = some (.lst (((x.cps.toList.take i).filter pr).map f)) ∧ Same H1 H, ⟨x.cps.size, by simp, Nat.zero_le _, upd_same, same_new hD⟩, ?_⟩
  rintro j m H ⟨rfl, hi, hl, e⟩
  by_cases hlt : j < x.cps.size
  · refine .inr ⟨hlt, fun H' => H' D = some (.lst (((x.cps.toList.take (j + 1)).filter pr).map f)) ∧ Same H1 H', fun H' p' => ⟨x.cps.size - (j + 1), by omega, rfl, hlt, p'⟩, fun y H' hy => ?_⟩
    obtain ⟨rfl, c, hc, rfl⟩ := hy
    have hc' : x.cps.toList[j]? = some c := by simpa using hc
    have tk : x.cps.toList.take (j + 1) = x.cps.toList.take j ++ [c] := by rw [List.take_add_one, hc']; rfl
    have len : (((x.cps.toList.take j).filter pr).map f).length < sizeLine := by
      rw [List.length_map]
      have := List.length_filter_le pr (x.cps.toList.take j)
      have h2 : (x.cps.toList.take j).length ≤ j := by rw [List.length_take]; omega
      omega
    refine hs c H' _ _ e (fun hp => ⟨_, hl, len, ?_, ?_⟩) (fun hp => ⟨?_, e⟩)
    · rw [upd_same, tk, List.filter_append, List.map_append]
      simp [hp]
    · exact fun b o hb => by rw [upd_ne (ne_of_none hb hD)]; exact e b o hb
    · rw [hl, tk, List.filter_append, List.map_append]
      simp [hp]
  · have e2 : j = x.cps.size := by omega
    subst e2
    refine .inl ⟨Nat.le_refl _, hd D H hD ?_ e⟩
    rw [hl, List.take_of_length_le (by simp)]
/-! ### sorted(set(..)) of a list or a tuple -/
section
variable {P : Program} {w : World} {A : Around} {E : Value → Shared → Prop} {s : Shared}
set_option maxHeartbeats 8000000 in
theorem call_set_intsT {l : Addr} {items : Array Value} (ns : List Int) {Q : Value → Shared → Prop} (hh : A.handled = none) (hl : s.heap.IsTuple l items) (hit : IntsAre items.toList ns) (hfew : ns.length + 1 < scanBound)
    (h : ∀ (h' : Heap) (tk : Nat) T m, SetR w h' s.heap.objs.size T m → GotI ns ns.length T m → (∀ b o, s.heap.get? b = some o → h'.get? b = some o) → Q (.ref s.heap.objs.size) { s with heap := h', toks := tk }) :
    wpAny (model P w) A (call (.type "set") [.ref l]) Q E s := by
  have hisz : items.size = ns.length := by
    have q := IntsAre.length hit
    rw [Array.length_toList] at q
    exact q
  obtain ⟨c, tl, hmro⟩ := F.called_set.mro
  have hmade := F.called_set.made
  have hsub := F.called_set.sub
  refine wpAny_call (codeAny_of_tree ?_)
  show wpAny _ _ (callAny (.type "set") _) _ _ _
  refine wpAny_pure ⟨Code.quiet_builtin _ (by decide +kernel), codeAny_builtin F.entry_type_call ?_⟩
  rw [Around.under_plain (weight_type_call_type "set" [.ref l] []) rfl]
  have h1 := F.called_set.notType
  have h2 := F.called_set.canCreate
  have hct := F.typeCall_set_1 (.ref l)
  repeat (any_goals (first | assumption | wp_step))

  refine codeAny_mono (code_set_led1 (.ref l) (E := E) (Q₁ := fun obj s₁ => obj = .ref s.heap.objs.size ∧ s₁ = { s with heap := s.heap.push { cls := .type "set", dict := none, data := .set #[] 0 (.fresh 0 0 (!w.params.followText "set-order")) } }) ⟨rfl, rfl⟩) fun r s₁ hr => ?_
  cases r with
  | error e => exact hr
  | ok fl =>
    cases fl with
    | ret obj =>
      obtain ⟨rfl, rfl⟩ := hr
      have hS : (s.heap.push { cls := .type "set", dict := none, data := .set #[] 0 (.fresh 0 0 (!w.params.followText "set-order")) }).get? s.heap.objs.size = some { cls := .type "set", dict := none, data := .set #[] 0 (.fresh 0 0 (!w.params.followText "set-order")) } := Heap.get?_push_size _ rfl
      have hT : Shared.TypeIs { s with heap := s.heap.push { cls := .type "set", dict := none, data := .set #[] 0 (.fresh 0 0 (!w.params.followText "set-order")) } } (.ref s.heap.objs.size) "set" := ⟨_, hS, rfl⟩
      have hli := F.called_set.init.lookup
      have hbi := F.called_set.init.bind (.ref s.heap.objs.size)
      repeat (any_goals (first | assumption | wp_step))

      refine codeAny_mono (codeAny_call_builtin (R := wants (fun r s₂ => r = .none ∧ ∃ h' tk T m, s₂ = { s with heap := h', toks := tk } ∧ SetR w h' s.heap.objs.size T m ∧ GotI ns ns.length T m ∧
          (∀ b o, s.heap.get? b = some o → h'.get? b = some o)) E) F.called_set.init.plain F.entry_set_init (check_set_init_1 hT ?_)) fun r₂ s₂ hr₂ => ?_
      · obtain ⟨ol, hol, hcl, nl, hdl⟩ := hl
        obtain ⟨ocls, odict, odata, oslots⟩ := ol
        simp only at hcl hdl
        subst hcl; subst hdl
        have hol' : (s.heap.push { cls := .type "set", dict := none, data := .set #[] 0 (.fresh 0 0 (!w.params.followText "set-order")) }).get? l = some { cls := .type "tuple", dict := odict, data := .seq items nl, slots := oslots } := Heap.get?_push_of_some _ hol
        have hsls := F.sub_tuple_set
        have hslf := F.sub_tuple_frozenset
        have hne : (Value.type "tuple" == Value.type "dict") = false := by decide
        have hl1 : (s.heap.push { cls := .type "set", dict := none, data := .set #[] 0 (.fresh 0 0 (!w.params.followText "set-order")) }).IsTuple l items := ⟨_, hol', rfl, nl, rfl⟩
        unfold Builtin.«set.__init__» noKeywords Builtin.Frozenset.updateFrom
        generalize hPI : pyIter = PI
        wp_walk
        subst hPI

        refine wpAny_pyIter_tuple hl1 ?_
        refine wpAny_bind (wpAny_runValue ?_)
        have hlS : l < s.heap.objs.size := Heap.lt_size hol
        have hh3 : A.in1.in1.in1.handled = none := by simp [hh]
        have hneI : l ≠ (s.heap.push { cls := .type "set", dict := none, data := .set #[] 0 (.fresh 0 0 (!w.params.followText "set-order")) }).objs.size := by
          rw [Heap.size_push]; exact Nat.ne_of_lt (Nat.lt_succ_of_lt hlS)
        have hSf : s.heap.objs.size ∉ [(s.heap.push { cls := .type "set", dict := none, data := .set #[] 0 (.fresh 0 0 (!w.params.followText "set-order")) }).objs.size, l] := by
          rw [Heap.size_push]; simp only [List.mem_cons, List.mem_singleton, List.not_mem_nil, or_false, not_or]
          exact ⟨Nat.ne_of_lt (Nat.lt_succ_self _), Nat.ne_of_gt hlS⟩
        have hval : ∀ (i : Nat) (v : Value), items[i]? = some v → ∃ k t, ns[i]? = some k ∧ v = .int k t := fun i v hv => by
          have q : items.toList[i]? = some v := by rw [Array.getElem?_toList]; exact hv
          obtain ⟨k, t, e1, e2⟩ := IntsAre.at hit i v q
          exact ⟨k, t, e2, e1⟩
        have none_of : ∀ b, s.heap.objs.size ≤ b → s.heap.get? b = none := fun b hb => by
          cases q : s.heap.get? b with
          | none => rfl
          | some o => exact absurd (Nat.lt_of_lt_of_le (Heap.lt_size q) hb) (Nat.lt_irrefl _)
        refine set_update_ints ((Walks.tuple hh3 _ l hneI items).toS) s.heap.objs.size
          hSf ns hisz hfew hval s.heap (none_of _ (Nat.le_refl _)) (fun b hb => none_of b (by
            rw [List.mem_singleton.mp hb, Heap.size_push]
            exact Nat.le_succ _)) (items.size - 0) 0 _ (by omega) (Nat.zero_le _)
          ⟨⟨_, Heap.get?_push_size _ rfl, rfl, rfl⟩, (hl1.push _)⟩ (fun b o e => Heap.get?_push_of_some _ (Heap.get?_push_of_some _ e)) ?hS0 ?hR
        case hS0 =>
          exact ⟨_, 0, (setR_fresh (h := s.heap) w).at fun o e => Heap.get?_push_of_some _ e, fun k => by simp, Nat.le_refl _⟩
        case hR =>
          intro s' T m hm hS' g' hkp
          obtain ⟨h', g2, d', tk', os'⟩ := s'
          have eg : g2 = s.gens := hm.gens
          have ed : d' = s.drawn := hm.drawn
          have eo : os' = s.os := hm.os
          subst eg; subst ed; subst eo
          show wpAny _ _ _ _ _ _
          refine wpAny_pure ?_
          show wpAny _ _ (ret Value.none) _ _ _
          rw [hisz] at g'
          exact wpAny_pure ⟨rfl, h', tk', T, m, rfl, hS', g', hkp⟩

      · cases r₂ with
        | error e => exact hr₂
        | ok fl₂ =>
          cases fl₂ with
          | ret r =>
            obtain ⟨rfl, h', tk, T, m, rfl, hS', g', hk'⟩ := hr₂
            repeat (any_goals (first | assumption | wp_step))
            exact h _ _ _ _ hS' g' hk'
          | _ => exact hr₂.elim
    | _ => exact hr.elim
end
section
variable {X : Cx}
def rSetA (K : Frag) (w : World) : List V → Hp → VK → Prop := fun xs H Q => ∃ (l : Addr) (ns D : List Int), xs = [V.ref l] ∧ SqA K H l (ns.map V.int) ∧ ns.length + 1 < scanBound ∧ (∀ z ∈ ns, z ∈ D) ∧ ∀ a T m, H a = none → (∀ k, T k = true ↔ k ∈ ns) → m ≤ D.length → Q (.ref a) (upd H a (SetO w a T m))
theorem cr_setA (hc : X.calm = true) : CallR X (.type "set") (rSetA X.K X.w) := by
  intro pins s σ H xs us Q I r h
  obtain ⟨l, ns, D, rfl, hl, hf, hD, q⟩ := h
  rcases hl with hl | hl
  · exact cr_setI hc pins s σ H [.ref l] us Q I r ⟨l, ns, D, rfl, hl, hf, hD, q⟩
  rw [Vals.ref1 r]
  obtain ⟨its, rv, pl, hz⟩ := I.tuple hl
  refine call_set_intsT (P := X.prog) (w := X.w) ns (I.ok.hd hc) (show s.heap.IsTuple l its.toArray from pl) (by simpa using ints_of_vals rv) hf fun h' tk T m R g k => ?_
  have hT : ∀ k, T k = true ↔ k ∈ ns := fun k => by have := g.1 k; rwa [List.take_length] at this
  exact ⟨.ref s.heap.objs.size, upd H s.heap.objs.size (SetO X.w s.heap.objs.size T m), I.laid (t' := tk) k (Nat.le_refl _) (setO_new R), rfl, q _ T m (I.hok.fresh (Nat.le_refl _)) hT (setR_le R fun k hk => hD k ((hT k).mp hk))⟩
structure SSetA (K : Frag) (H : Hp) (p : Addr) (Q : V → Hp → Prop) : Prop where
  ex : ∃ ns D : List Int, SqA K H p (ns.map V.int) ∧ ns.length + 1 < scanBound ∧ D.length < 64 ∧ (∀ z ∈ ns, z ∈ D) ∧ ∀ (rs : List Int) (q : Addr) (H' : Hp), rs.Pairwise (· < ·) → (∀ k, k ∈ rs ↔ k ∈ ns) → Same H H' → H q = none → H' q = some (.lst (rs.map V.int)) → Q (.ref q) H'
def dSSetA (K : Frag) (te : TE) : TE := fun σ H Q => te σ H fun x H1 => match x with
  | .ref p => SSetA K H1 p Q
  | _ => False
theorem pe_ssetA {e : Expr} {te : TE} {p1 p2 pos1 pos2 : Pos} (hc : X.calm = true) (h1 : X.mg "sorted" = none) (h2 : X.mg "set" = none) (b1 : bootBuiltins "sorted" = some (.builtin "sorted")) (b2 : bootBuiltins "set" = some (.type "set")) (he : PE X e te) (g1 : Gl X "sorted" := by rfl) (g2 : Gl X "set" := by rfl)
    (hs : starEach [.Call (.Name "set" p2) [e] [] pos2] X.env = (false, eval (.Call (.Name "set" p2) [e] [] pos2) X.env) :: starEach [] X.env := by rfl) (hs2 : starEach [e] X.env = (false, eval e X.env) :: starEach [] X.env := by rfl) :
    PE X (.Call (.Name "sorted" p1) [.Call (.Name "set" p2) [e] [] pos2] [] pos1) (dSSetA X.K te) := by
  have hi : PE X (.Call (.Name "set" p2) [e] [] pos2) (tCB (rSetA X.K X.w) (tCons (upE te) tNil)) := pe_ct (cr_setA hc) h2 b2 (pa_cons (pe_up he) pa_nil (hs := hs2)) g2 (by decide) (by decide) hs2 rfl
  have ho : PE X (.Call (.Name "sorted" p1) [.Call (.Name "set" p2) [e] [] pos2] [] pos1) (tCB (rSortedSet X.w) (tCons (tCB (rSetA X.K X.w) (tCons (upE te) tNil)) tNil)) := pe_cb (cr_sortedSet hc) h1 b1 (pa_cons hi pa_nil (hs := hs)) g1 (by decide) (by decide) hs rfl
  refine PE.of ho fun σ H Q q => ?_
  refine ⟨_, q, fun x H1 q1 => ?_⟩
  cases x <;> try exact q1.elim
  obtain ⟨ns, D, hl, hf, hD, hsub, q2⟩ := q1.ex
  refine ⟨_, ns, D, rfl, hl, hf, hsub, fun a T m na hT hm => ?_⟩
  refine ⟨a, T, m, rfl, upd_same, by omega, fun rs p hp hmem _ np => ?_⟩
  have e1 := same_new (o := SetO X.w a T m) na
  refine q2 rs p _ hp (fun k => (hmem k).trans (hT k)) (e1.trans (same_new np)) ?_ upd_same
  cases e : H1 p with
  | none => rfl
  | some o => rw [e1 _ _ e] at np; cases np
end
/-! ### except clauses without a name -/
def dTryO (K : Frag) (c : Str) (tb : WX → TS) (ts : Addr → Value → Option Addr → TS) (Wout : WX) : TS := fun D σ H => tb (wOnly K (.ref (He.ga K c)) ts Wout D) D σ H
theorem ps_tryO {X : Cx} {c : Str} {body suite : List Stmt} {b₀ : Stmt} {np pos pos' : Pos} {tb : WX → TS} {ts : Addr → Value → Option Addr → TS} {Wout : WX} (gc : X.mg c = some (.ref (He.ga X.K c))) (tk : Takes X Wout)
    (hb : ∀ (W : WX) (pn : List (Addr × Obj)) (xe : Value → Shared → Prop), Takes (X.tr pn xe) W → PassesOwn (model X.prog X.w) X.A X.env xe → PSs (X.tr pn xe) body (tb W))
    (hsu : ∀ (a : Addr) (oe : Obj) (cls : Value) (d : Option Addr) (pn : List (Addr × Obj)), Zc cls d oe → (∃ vs, oe.data = .fields vs) → PSs (X.suite a ((a, oe) :: pn)) (b₀ :: suite) (ts a cls d))
    (hs : X.stack = X.env :: X.outer := by rfl) (hf : X.env.frame = some X.env.locals := by rfl) (hg : Gl X c := by rfl) (hdb : (c == ("__debug__" : Str)) = false := by decide) :
    PS X (.Try body [.ExceptHandler (some (.Name c np)) none (b₀ :: suite) pos'] [] [] pos) (dTryO X.K c tb ts Wout) := ps_try_only hs hf ⟨hg, hdb, .inl gc⟩ tk hb hsu
theorem hdo_yes {K : Frag} {cls c : Value} {ts : Addr → Value → Option Addr → TS} {Wout : WX} {D : L2.Ends} {d : Option Addr} {σ : L2.St} {H : Hp} (h : PySem.W.exmOne K cls c = some true) (q : ∀ a, H a = none → ts a cls d D σ H) : wOnly K c ts Wout D cls d σ H := ⟨true, h, fun _ => q, fun z => nomatch z⟩
theorem hdo_no {K : Frag} {cls c : Value} {ts : Addr → Value → Option Addr → TS} {Wout : WX} {D : L2.Ends} {d : Option Addr} {σ : L2.St} {H : Hp} (h : PySem.W.exmOne K cls c = some false) (q : Wout cls d σ H) : wOnly K c ts Wout D cls d σ H := ⟨false, h, (fun z => nomatch z), fun _ => q⟩
end S
namespace S
open PySem PySem.Spec PyProof.Rows L2
structure NinS (x : V) (z : Str) (H : Hp) (Q : VK) : Prop where
  ex : ∃ c : Nat, x = .str ⟨#[c]⟩ ∧ Q (.bl (!decide (c ∈ z.cps.toList))) H
def oNinT (K : Frag) : R2 := fun x y H Q => match y with
  | .str z => NinS x z H Q
  | y => oNin K x y H Q
theorem op_ninT {X : Cx} : OpR X (compareOp .NotIn) (oNinT X.K) := by
  intro pins s σ H x y v u Q I rx ry q
  cases y with
  | str z =>
    have q : NinS x z H Q := q
    obtain ⟨c, rfl, q2⟩ := q.ex
    exact op_notIn_sign pins s σ H _ _ v u Q I rx ry ⟨c, z, rfl, rfl, q2⟩
  | _ => exact o_nin pins s σ H x _ v u Q I rx ry q
structure SlS (z : Str) (lo hi : Option Int) (H : Hp) (Q : VK) : Prop where
  c : z.length ≤ sizeLine
  q : Q (.str (cutS z lo hi)) H
def oSlT (K : Frag) : V → Option Int → Option Int → Hp → VK → Prop := fun x lo hi H Q => match x with
  | .str z => SlS z lo hi H Q
  | x => oSl K x lo hi H Q
theorem sl_anyT {X : Cx} : SlR X (oSlT X.K) := by
  intro pins s σ H x v vl vu lo hi sl Q I rx hs pl pu q
  cases x <;> first
    | exact sl_any pins s σ H _ v vl vu lo hi sl Q I rx hs pl pu q
    | exact sl_str pins s σ H _ v vl vu lo hi sl Q I rx hs pl pu ⟨_, rfl, q.c, q.q⟩
end S
namespace S
open PySem PySem.Spec PyProof.Rows L2
/-- a clause: its class, the slot of its name, its suite -/
structure Cl where
  c : Value
  nm : Option Nat
  ts : Addr → Value → Option Addr → TS
/-- what a clause's suite is asked -/
def Cl.run (k : Cl) (D : L2.Ends) (a : Addr) (cls : Value) (d : Option Addr) (σ : L2.St) (H : Hp) : Prop := match k.nm with
  | none => k.ts a cls d D σ H
  | some i => k.ts a cls d { nx := fun σ' H' => D.nx (σ'.set i none) H', rt := D.rt, bk := fun σ' H' => D.bk (σ'.set i none) H', ct := fun σ' H' => D.ct (σ'.set i none) H' } (σ.set i (some (.ref a))) H
/-- the clauses asked in order -/
def wCl (K : Frag) (Wout : WX) (D : L2.Ends) : List Cl → WX
  | [] => Wout
  | k :: r => fun cls d σ H => ∃ b, PySem.W.exmOne K cls k.c = some b ∧ (b = true → ∀ a, H a = none → k.run D a cls d σ H) ∧ (b = false → wCl K Wout D r cls d σ H)
def SuOk (X : Cx) (suite : List Stmt) (ts : Addr → Value → Option Addr → TS) : Prop := ∀ (a : Addr) (oe : Obj) (cls : Value) (d : Option Addr) (pn : List (Addr × Obj)), Zc cls d oe → (∃ vs, oe.data = .fields vs) → PSs (X.suite a ((a, oe) :: pn)) suite (ts a cls d)
inductive ClOk (X : Cx) : List ExceptHandler → List Cl → Prop
  | nil : ClOk X [] []
  | bare {x : Str} {c : Value} {ts : Addr → Value → Option Addr → TS} {b : Stmt} {suite : List Stmt} {np pos : Pos} {hs : List ExceptHandler} {l : List Cl} (hc : Names X x c) (hsu : SuOk X (b :: suite) ts) (r : ClOk X hs l) :
      ClOk X (.ExceptHandler (some (.Name x np)) none (b :: suite) pos :: hs) (⟨c, none, ts⟩ :: l)
  | named {x n : Str} {c : Value} {i : Nat} {ts : Addr → Value → Option Addr → TS} {b : Stmt} {suite : List Stmt} {np pos : Pos} {hs : List ExceptHandler} {l : List Cl} (hc : Names X x c) (hi : X.N[i]? = some n) (hln : X.env.kindOf n = some .local) (hsu : SuOk X (b :: suite) ts) (r : ClOk X hs l) :
      ClOk X (.ExceptHandler (some (.Name x np)) (some n) (b :: suite) pos :: hs) (⟨c, some i, ts⟩ :: l)
theorem ps_try_cl {X : Cx} {body : List Stmt} {h₀ : ExceptHandler} {hds : List ExceptHandler} {l : List Cl} {pos : Pos} {tb : WX → TS} {Wout : WX} (hN : X.N.Nodup) (tk : Takes X Wout)
    (hb : ∀ (W : WX) (pn : List (Addr × Obj)) (xe : Value → Shared → Prop), Takes (X.tr pn xe) W → PassesOwn (model X.prog X.w) X.A X.env xe → PSs (X.tr pn xe) body (tb W)) (hh : ClOk X (h₀ :: hds) l)
    (hs : X.stack = X.env :: X.outer := by rfl) (hf : X.env.frame = some X.env.locals := by rfl) : PS X (.Try body (h₀ :: hds) [] [] pos) (fun D σ H => tb (wCl X.K Wout D l) D σ H) := by
  refine ⟨fun pins s σ H D I hq => ?_⟩
  have ok := I.ok
  have frames : X.A.frames = some (X.env :: X.outer) := by rw [ok.frames, hs]
  let caught : Value → Shared → Prop := fun e s₁ => wpAny (model X.prog X.w) X.A (noteFrame e X.env) (fun _ s₂ => wpAny (model X.prog X.w) X.A (setFlight e none) (fun _ s₃ =>
    wpAny (model X.prog X.w) X.A (handleBy e X.env (h₀ :: hds)) (SP X pins D) X.xe s₃) X.xe s₂) X.xe s₁
  have land : Takes (X.tr (X.pn ++ pins) caught) (wCl X.K Wout D l) := by
    intro u s' xx
    obtain ⟨a, B, sI, pins', σ', H', cls, d, rfl, J', nb, up, sky, na, os, ag, w⟩ := xx
    have J : Inv X pins σ' H' sI := J'.ofTry ok
    show wpAny (model X.prog X.w) X.A (noteFrame (.ref a) X.env) _ _ _
    refine Sky.land Zc.steady frames hf (by rw [← hs]; exact sky) fun h3 fl3 up3 => ?_
    have J3 : Inv X pins σ' H' { s' with heap := h3 } := J.landed nb fl3.1 (up.trans up3) os ag
    obtain ⟨o3, vs3, g3, z3, d3⟩ := fl3.there
    have off : a ∉ frs (X.env :: X.outer) := fun hm => by
      obtain ⟨_, o', e', hnf⟩ := fl3.2.2.1.mem hm
      rw [g3] at e'
      cases e'
      exact hnf _ d3
    have nL : a ≠ X.env.locals := fun z => off (List.mem_filterMap.mpr ⟨X.env, List.mem_cons_self, by rw [hf, z]⟩)
    have nF : a ∉ X.fs := fun hm => by
      obtain ⟨e, he, q⟩ := List.mem_filterMap.mp hm
      exact off (List.mem_filterMap.mpr ⟨e, List.mem_cons_of_mem _ he, q⟩)
    have S3 := J3.suite g3 d3 na nL nF
    have look : PySem.W.Looks (model X.prog X.w) h3 (typeOf (.ref a)) cls := fun A Q E s k q => wpAny_typeOf_ref (k _ _ g3) (by rw [z3.1]; exact q)
    /- the class named by a clause -/
    have name : ∀ {x : Str} {c : Value} {np : Pos} {Q : Value → Shared → Prop} {E : Value → Shared → Prop}, Names X x c → Q c { s' with heap := h3 } → wpAny (model X.prog X.w) (X.A.mark (some (.ref a))) (eval (.Name x np) X.env) Q E { s' with heap := h3 } := fun {x c np Q E} hc q => by
      obtain ⟨hg, hdb, hm | ⟨hm, hv, hn⟩⟩ := hc
      · exact ld_glob (X := X.suite a ((a, o3) :: (X.pn ++ pins))) S3 hg hm q hdb
      · exact ld_blt (X := X.suite a ((a, o3) :: (X.pn ++ pins))) S3 hg hm hv q hn hdb
    have clauses : ∀ {hs' : List ExceptHandler} {l' : List Cl}, ClOk X hs' l' → wCl X.K Wout D l' cls d σ' H' → wpAny (model X.prog X.w) X.A (handleBy (.ref a) X.env hs') (SP X pins D) X.xe { s' with heap := h3 } := by
      intro hs' l' hk
      induction hk with
      | nil =>
        intro w
        refine wpAny_handleBy_nil ?_
        obtain ⟨_, _, _, _, _, T, _, _, he, _, hd, h1, _⟩ := id fl3
        unfold PySem.passOn
        refine wpAny_bind (wpAny_field he hd h1 ?_)
        rw [if_neg (show ¬ ((Value.ref T == Value.none) = true) from by simp)]
        have out : wpAny (model X.prog X.w) X.A (setFlight (.ref a) X.env.frame) (fun _ s4 => wpAny (model X.prog X.w) X.A (throw (.ref a) : Sem Flow) (SP X pins D) X.xe s4) X.xe { s' with heap := h3 } := by
          rw [hf]
          exact HandSPX.setFlight_upZ fl3 fun h4 hh4 up4 => wpAny_throw (tk _ _ ⟨a, B, sI, pins, σ', H', cls, d, rfl, J, nb, (up.trans up3).trans up4, .inr (.inr (by rw [hs]; exact hh4)), na, os, ag, w⟩)
        first
          | exact wpAny_bind (wpAny_pure (wpAny_bind out))
          | exact wpAny_bind out
      | @bare x c ts b suite np pos hs2 l2 hc hsu r ih =>
        rintro ⟨yes, hx, hyes, hno⟩
        refine wpAny_handleBy_cons (codeAny_handlers_test (name hc ((PySem.W.exm_one (M := model X.prog X.w) J3.kIn look hx).here ?_))) (by intro q; cases q)
        cases yes with
        | false => exact ih (hno rfl)
        | true =>
          refine codeAny_handlers_suite (HandSPX.lands_againZ fl3 fun h4 fl4 up4 => ?_)
          obtain ⟨o4, vs4, g4, z4, d4⟩ := fl4.there
          have S4 := (J.landed nb fl4.1 ((up.trans up3).trans up4) os ag : Inv X pins σ' H' { s' with heap := h4 }).suite g4 d4 na nL nF
          refine wpAny_mono ((hsu a o4 cls d (X.pn ++ pins) z4 ⟨_, d4⟩).run [] _ _ H' _ S4 (hyes rfl a na)) (fun f s6 hsp => ?_) (fun _ _ z => False.elim z)
          cases f with
          | next => exact let ⟨_, _, S6, q6⟩ := hsp; ⟨_, _, S6.unsuite ok, q6⟩
          | brk => exact let ⟨_, _, S6, q6⟩ := hsp; ⟨_, _, S6.unsuite ok, q6⟩
          | cont => exact let ⟨_, _, S6, q6⟩ := hsp; ⟨_, _, S6.unsuite ok, q6⟩
          | ret u => exact let ⟨_, _, _, S6, r6, q6⟩ := hsp; ⟨_, _, _, S6.unsuite ok, r6, q6⟩
      | @named x n c i ts b suite np pos hs2 l2 hc hi hln hsu r ih =>
        rintro ⟨yes, hx, hyes, hno⟩
        refine wpAny_handleBy_cons (codeAny_handlers_test (name hc ((PySem.W.exm_one (M := model X.prog X.w) J3.kIn look hx).here ?_))) (by intro q; cases q)
        cases yes with
        | false => exact ih (hno rfl)
        | true =>
          refine codeAny_handlers_suite_as (HandSPX.lands_againZ fl3 fun h4 fl4 up4 => ?_)
          obtain ⟨o4, vs4, g4, z4, d4⟩ := fl4.there
          have S4 := (J.landed nb fl4.1 ((up.trans up3).trans up4) os ag : Inv X pins σ' H' { s' with heap := h4 }).suite g4 d4 na nL nF
          refine store_ok (X := X.suite a ((a, o4) :: (X.pn ++ pins))) (v := .ref a) S4 hN hi (.inl hln) rfl (fun s5 S5 => ?_) (.inr hln)
          refine wpAny_mono ((hsu a o4 cls d (X.pn ++ pins) z4 ⟨_, d4⟩).run [] s5 _ H' _ S5 (hyes rfl a na)) (fun f s6 hsp => ?_) (fun _ _ z => False.elim z)
          have leave : ∀ {σ6 : L2.St} {H6 : Hp} {Q : Shared → Prop}, Inv (X.suite a ((a, o4) :: (X.pn ++ pins))) [] σ6 H6 s6 → (∀ s7, Inv X pins (σ6.set i none) H6 s7 → Q s7) →
              wpAny (model X.prog X.w) X.A (do bindName X.env n .none; unbindBehindTheSuite X.env n pos) (fun _ s7 => Q s7) X.xe s6 := fun S6 hq => gone_ok (S6.unsuite ok) hN hi hln hq
          cases f with
          | next => exact let ⟨_, _, S6, q6⟩ := hsp; leave S6 fun s7 J7 => ⟨_, _, J7, q6⟩
          | brk => exact let ⟨_, _, S6, q6⟩ := hsp; leave S6 fun s7 J7 => ⟨_, _, J7, q6⟩
          | cont => exact let ⟨_, _, S6, q6⟩ := hsp; leave S6 fun s7 J7 => ⟨_, _, J7, q6⟩
          | ret u => exact let ⟨_, _, _, S6, r6, q6⟩ := hsp; leave S6 fun s7 J7 => ⟨_, _, _, J7, r6, q6⟩
    exact clauses hh w
  refine wpAny_Try_except (wpAny_mono ((hb (wCl X.K Wout D l) (X.pn ++ pins) caught land PassesOwn.looking).run [] s σ H D (I.toTry _) hq) (fun f s1 hsp => ?_) (fun e s1 he => he))
  cases f with
  | next =>
    obtain ⟨σ', H', J', q⟩ := hsp
    exact wpAny_execs_nil ⟨σ', H', J'.ofTry ok, q⟩
  | brk => exact let ⟨σ', H', J', q⟩ := hsp; ⟨σ', H', J'.ofTry ok, q⟩
  | cont => exact let ⟨σ', H', J', q⟩ := hsp; ⟨σ', H', J'.ofTry ok, q⟩
  | ret u => exact let ⟨v, σ', H', J', r, q⟩ := hsp; ⟨v, σ', H', J'.ofTry ok, r, q⟩
def dTryC (K : Frag) (l : List (Str × Option Nat × (Addr → Value → Option Addr → TS))) (tb : WX → TS) (Wout : WX) : TS := fun D σ H => tb (wCl K Wout D (l.map fun k => ⟨.ref (He.ga K k.1), k.2.1, k.2.2⟩)) D σ H
/-- one clause asked -/
theorem cl_yes {K : Frag} {Wout : WX} {D : L2.Ends} {k : Cl} {r : List Cl} {cls : Value} {d : Option Addr} {σ : L2.St} {H : Hp} (h : PySem.W.exmOne K cls k.c = some true) (q : ∀ a, H a = none → k.run D a cls d σ H) : wCl K Wout D (k :: r) cls d σ H := ⟨true, h, fun _ => q, fun z => nomatch z⟩
theorem cl_no {K : Frag} {Wout : WX} {D : L2.Ends} {k : Cl} {r : List Cl} {cls : Value} {d : Option Addr} {σ : L2.St} {H : Hp} (h : PySem.W.exmOne K cls k.c = some false) (q : wCl K Wout D r cls d σ H) : wCl K Wout D (k :: r) cls d σ H := ⟨false, h, (fun z => nomatch z), fun _ => q⟩
/-- except A as e: .. except B: .. -/
theorem ps_try2 {X : Cx} {c1 c2 n : Str} {i : Nat} {body s1 s2 : List Stmt} {b1 b2 : Stmt} {np1 np2 p1 p2 pos : Pos} {tb : WX → TS} {ts1 ts2 : Addr → Value → Option Addr → TS} {Wout : WX} (hN : X.N.Nodup) (g1 : X.mg c1 = some (.ref (He.ga X.K c1))) (g2 : X.mg c2 = some (.ref (He.ga X.K c2))) (tk : Takes X Wout)
    (hb : ∀ (W : WX) (pn : List (Addr × Obj)) (xe : Value → Shared → Prop), Takes (X.tr pn xe) W → PassesOwn (model X.prog X.w) X.A X.env xe → PSs (X.tr pn xe) body (tb W)) (h1 : SuOk X (b1 :: s1) ts1) (h2 : SuOk X (b2 :: s2) ts2)
    (hs : X.stack = X.env :: X.outer := by rfl) (hf : X.env.frame = some X.env.locals := by rfl) (hi : X.N[i]? = some n := by rfl) (hln : X.env.kindOf n = some .local := by rfl) (hg1 : Gl X c1 := by rfl) (hg2 : Gl X c2 := by rfl) (hd1 : (c1 == ("__debug__" : Str)) = false := by decide) (hd2 : (c2 == ("__debug__" : Str)) = false := by decide) :
    PS X (.Try body [.ExceptHandler (some (.Name c1 np1)) (some n) (b1 :: s1) p1, .ExceptHandler (some (.Name c2 np2)) none (b2 :: s2) p2] [] [] pos) (dTryC X.K [(c1, some i, ts1), (c2, none, ts2)] tb Wout) :=
  ps_try_cl hN tk hb (.named ⟨hg1, hd1, .inl g1⟩ hi hln h1 (.bare ⟨hg2, hd2, .inl g2⟩ h2 .nil)) hs hf
end S
namespace S
open PySem PySem.Spec PyProof.Rows L2
structure PopAt (xs : List V) (i : Int) (k : V → List V → Prop) : Prop where
  ex : ∃ (j : Nat) (y : V), i = j ∧ xs[j]? = some y ∧ xs.length ≤ sizeLine ∧ k y (xs.eraseIdx j)
def mPopAt : M2 := mL fun xs vs _ k => match vs with
  | [.int i] => PopAt xs i k
  | _ => False
theorem m_popAt {X : Cx} : MtR X "list.pop" mPopAt := MtR.of mt_popAt fun x vs H Q q => by
  cases x <;> try exact q.elim
  match vs, q with
  | [.int i], ⟨⟨xs, h, hp⟩⟩ =>
    obtain ⟨j, y, hi, hy, hz, q⟩ := hp.ex
    subst hi
    have hj := (List.getElem?_eq_some_iff.mp hy).1
    rw [sizeLine_eq] at hz
    refine ⟨_, xs, (j : Int), j, y, rfl, rfl, h, by omega, by omega, ?_, hy, q⟩
    unfold seqIndex?
    have h0 : ¬ (j : Int) < 0 := by omega
    have h1 : (0 : Int) ≤ (j : Int) := by omega
    have h2 : (j : Int) < (xs.length : Int) := by omega
    simp [h0, h1, h2, hj]
/-- a method of a text -/
def dMS (r : V → List V → Hp → VK → Prop) (to : TE) (t : TA) : TE := fun σ H Q => to σ H fun x H1 => match x with
  | .str l => t σ H1 fun vs H2 => r (.str l) vs H2 Q
  | _ => False
theorem pe_ms {X : Cx} {o e : Expr} {es : List Expr} {to : TE} {t : TA} {name : Str} {apos cpos : Pos} {id : String} {r : V → List V → Hp → VK → Prop} (slot : Slot "str" name id) (hty : typeOf (.builtin id) = pure (.type "method_descriptor")) (hm : MtR X id r) (ho : PE X o to) (ha : PA X (e :: es) t)
    (hbase : attributeBase o name X.env (eval o X.env) = eval o X.env := by rfl)
    (hfew : ((backTo cpos (starEach (e :: es) X.env)).all (fun x => !x.1) && (backToKw cpos (keywordEach [] X.env)).all (fun x => x.1.isSome)
      && decide ((e :: es).length + ([] : List Keyword).length + (if ([] : List Keyword).isEmpty then 0 else 1) < 30)) = true := by rfl)
    (hline : (apos.endLine == cpos.line) = true := by rfl) (hs : starEach (e :: es) X.env = (false, eval e X.env) :: starEach es X.env := by rfl) (hplain : (backTo cpos (starEach es X.env)).any (·.1) = false := by rfl) :
    PE X (.Call (.Attribute o name apos) (e :: es) [] cpos) (dMS r to t) := by
  refine ⟨fun pins s σ H Q I h => ?_⟩
  refine wpAny_Call_method_late hbase hfew hline rfl (thn (ho.run pins s σ H _ I h) fun v s1 ⟨x, H1, I1, r1, q1⟩ => ?_)
  cases x <;> try exact q1.elim
  obtain ⟨h1, h2⟩ := tyV_is (T := "str") I1 r1 rfl
  refine ⟨"str", id, PySem.F.plainAttrs_str, slot, hty, h1, h2, ?_⟩
  have hA := ha.run cpos pins s1 σ H1 _ I1 q1
  rw [hs] at hA ⊢
  refine Calls.callWith_builtin (by show (false || (backTo cpos (starEach es X.env)).any (·.1)) = false; rw [hplain] <;> rfl) (Calls.evalArgs_plain ?_)
  exact thn hA fun us s2 ⟨vs, H2, I2, r2, q2⟩ => hm pins s2 σ H2 _ vs _ us Q I2 r1 r2 q2
structure JoinS (K : Frag) (a : Str) (H : Hp) (p : Addr) (Q : VK) : Prop where
  ex : ∃ ys : List Str, SqA K H p (ys.map V.str) ∧ (ys.map (·.length)).sum + ys.length * a.length ≤ 16777216 ∧ Q (.str (Txt.join a ys)) H
def mJoin (K : Frag) : V → List V → Hp → VK → Prop := fun x vs H Q => match x, vs with
  | .str a, [.ref p] => JoinS K a H p Q
  | _, _ => False
theorem m_join {X : Cx} : MtR X "str.join" (mJoin X.K) := MtR.of mt_join fun x vs H Q q => by
  cases x <;> try exact q.elim
  match vs, q with
  | [.ref p], ⟨⟨ys, h1, h2, h3⟩⟩ => exact ⟨_, p, ys, rfl, rfl, h1, h2, h3⟩
end S
namespace S
open PySem PySem.Spec PyProof.Rows L2
theorem pe_gstr {X : Cx} {x z : Str} {pos : Pos} (hg : Gl X x) (hm : ∃ t, X.mg x = some (.str z t)) (hd : (x == ("__debug__" : Str)) = false := by decide) : PE X (.Name x pos) (tC (.str z)) := by
  obtain ⟨t, e⟩ := hm
  exact pe_glob hg e ⟨t, rfl⟩ hd
theorem pe_gint {X : Cx} {x : Str} {i : Int} {pos : Pos} (hg : Gl X x) (hm : ∃ t, X.mg x = some (.int i t)) (hd : (x == ("__debug__" : Str)) = false := by decide) : PE X (.Name x pos) (tC (.int i)) := by
  obtain ⟨t, e⟩ := hm
  exact pe_glob hg e ⟨t, rfl⟩ hd
theorem maxOf_cons (x y : Int) (ys : List Int) : PySem.W.maxOf y (x :: ys) = PySem.W.maxOf (if y < x then x else y) ys := by
  show List.foldl _ (if decide (y < x) = true then x else y) ys = _
  by_cases h : y < x
  · rw [if_pos (decide_eq_true h), if_pos h]; rfl
  · rw [if_neg (fun z => h (of_decide_eq_true z)), if_neg h]; rfl
theorem maxOf_in : ∀ (ys : List Int) (y : Int), PySem.W.maxOf y ys ∈ y :: ys ∧ ∀ z ∈ y :: ys, z ≤ PySem.W.maxOf y ys
  | [], y => ⟨List.mem_cons_self .., fun z hz => by rw [List.mem_singleton.mp hz]; exact Int.le_refl _⟩
  | x :: ys, y => by
    have e := maxOf_cons x y ys
    by_cases h : y < x
    · rw [if_pos h] at e
      obtain ⟨h1, h2⟩ := maxOf_in ys x
      rw [e]
      refine ⟨List.mem_cons_of_mem _ h1, fun z hz => ?_⟩
      rcases List.mem_cons.mp hz with rfl | hz
      · have := h2 _ (List.mem_cons_self ..); omega
      · exact h2 z hz
    · rw [if_neg h] at e
      obtain ⟨h1, h2⟩ := maxOf_in ys y
      have h3 := h2 _ (List.mem_cons_self ..)
      rw [e]
      refine ⟨?_, fun z hz => ?_⟩
      · rcases List.mem_cons.mp h1 with h | h
        · rw [h]; exact List.mem_cons_self ..
        · exact List.mem_cons_of_mem _ (List.mem_cons_of_mem _ h)
      · rcases List.mem_cons.mp hz with rfl | hz
        · exact h3
        · rcases List.mem_cons.mp hz with rfl | hz
          · omega
          · exact h2 z (List.mem_cons_of_mem _ hz)
structure MaxD (K : Frag) (H : Hp) (p : Addr) (d : Int) (Q : VK) : Prop where
  ex : ∃ ns : List Int, SqL K H p (ns.map V.int) ∧ (ns = [] → Q (.int d) H) ∧ ∀ m ∈ ns, (∀ z ∈ ns, z ≤ m) → Q (.int m) H
def cMaxD (K : Frag) : List V → List V → Hp → VK → Prop := fun vs zs H Q => match vs, zs with
  | [.ref p], [.int d] => MaxD K H p d Q
  | _, _ => False
theorem c_maxD {X : Cx} (hc : X.calm = true) (hu : X.A.units + 64 < cLine) : CallRK X (.builtin "max") ["default"] (cMaxD X.K) := by
  intro pins s σ H xs zs us ws Q I r r2 h
  match xs, zs, h with
  | [.ref p], [.int d], ⟨⟨ns, hs, q0, q1⟩⟩ =>
    rw [Vals.ref1 r]
    obtain ⟨w, rfl, rw_⟩ := r2.one
    obtain ⟨its, rv, hl, hz⟩ := I.list hs
    have hold : PySem.W.HoldAll s.heap its.toArray.toList ns := by
      obtain ⟨as, h⟩ := Dp.readsAll I _ _ _ (dpAll_ints (K := X.K) (H := H) ns) rv
      exact ⟨as, h⟩
    show wpAny _ _ (call (.builtin "max") [.ref p] [(Str.ofString "default", w)]) _ _ _
    refine PySem.W.max_list_datum_default (I.ok.hd hc) hl.isList hold (by show X.A.units + 1 + 0 < cLine; omega) (fun e h' tk k => ?_) fun y ys i v h' tk e hv hh k => ?_
    · exact ⟨.int d, H, I.kept k, rw_, q0 e⟩
    · subst e
      obtain ⟨m1, m2⟩ := maxOf_in ys y
      refine ⟨.int (PySem.W.maxOf y ys), H, I.kept k, ?_, q1 _ m1 m2⟩
      obtain ⟨as, hr⟩ := hh
      cases hr
      exact ⟨_, rfl⟩
end S
namespace S
open PySem PySem.Spec PyProof.Rows L2
/-- the second loop of a comprehension whose list stands at D -/
def Lc2In (D : Addr) (g1 : TG) (tt1 : TT) (te : TE) (vs1 : List Nat) (σ2 : L2.St) (Nx : Hp → Prop) (J1 : It) (H4 : Hp) : Prop := ∃ W1 : Nat → Nat → Hp → Prop, (∃ m, W1 0 m H4) ∧ ∀ j k H, W1 j k H →
  (J1.stop j H ∧ Nx H) ∨ (J1.go j H ∧ ∃ Nx1 : Hp → Prop, (∀ H', Nx1 H' → ∃ k', k' < k ∧ W1 (j + 1) k' H') ∧ ∀ x H', J1.yld j H x H' → g1 x (wipe σ2 vs1) H' fun σ3 H5 => wipe σ3 vs1 = wipe σ2 vs1 ∧ tt1 σ3 H5 fun b H6 =>
    if b = true then te σ3 H6 fun y H7 => ∃ acc, H7 D = some (.lst acc) ∧ acc.length < sizeLine ∧ Nx1 (upd H7 D (.lst (acc ++ [y]))) else Nx1 H6)
def Lc2Go (g : TG) (tt : TT) (wi1 : TI) (g1 : TG) (tt1 : TT) (te : TE) (vs vs1 : List Nat) (σ : L2.St) (Q : VK) (J : It) (H1 : Hp) : Prop :=
  ∀ D, H1 D = none → ∃ W : Nat → Nat → Hp → Prop, (∃ m, W 0 m (upd H1 D (.lst []))) ∧ ∀ i m H, W i m H →
    (J.stop i H ∧ Q (.ref D) H) ∨ (J.go i H ∧ ∃ Nx : Hp → Prop, (∀ H', Nx H' → ∃ m', m' < m ∧ W (i + 1) m' H') ∧ ∀ x H', J.yld i H x H' → g x (wipe σ vs) H' fun σ2 H2 => wipe σ2 vs = wipe σ vs ∧ tt σ2 H2 fun b H3 =>
      if b = true then wi1 σ2 H3 (Wr (Lc2In D g1 tt1 te vs1 σ2 Nx)) else Nx H3)
def dLc2 (wi : TI) (g : TG) (tt : TT) (wi1 : TI) (g1 : TG) (tt1 : TT) (te : TE) (vs vs1 : List Nat) : TE := fun σ H Q => wi σ H (Wr (Lc2Go g tt wi1 g1 tt1 te vs vs1 σ Q))
section
variable {X : Cx} {elt tg iter tg1 iter1 : Expr} {ifs ifs1 : List Expr} {scope : Scope} {own : List (Str × Nat)} {vs1 : List Nat} {pos spos : Pos} {wi wi1 : TI} {g g1 : TG} {tt tt1 : TT} {te : TE}
theorem pe_lc2 (hc : X.calm = true) (hN : X.N.Nodup) (hi : PI X tg iter wi) (ok : BlkOk X.N X.env.scope scope own) (hv : ∀ i ∈ vs1, i ∈ own.map (·.2))
    (hg : ∀ (s : Shared) (H : Hp) (C : Addr) (cl : List (Str × Addr)) (fp : List Addr), PG (X.blk s H scope (compEnvC scope cl C X.env) fp) tg g) (ht : ∀ (s : Shared) (H : Hp) (C : Addr) (cl : List (Str × Addr)) (fp : List Addr), PTs (X.blk s H scope (compEnvC scope cl C X.env) fp) ifs tt)
    (hi1 : ∀ (s : Shared) (H : Hp) (C : Addr) (cl : List (Str × Addr)) (fp : List Addr), PI (X.blk s H scope (compEnvC scope cl C X.env) fp) tg1 iter1 wi1)
    (hg1 : ∀ (s : Shared) (H : Hp) (C : Addr) (cl : List (Str × Addr)) (fp : List Addr), PG (X.blk s H scope (compEnvC scope cl C X.env) fp) tg1 g1) (ht1 : ∀ (s : Shared) (H : Hp) (C : Addr) (cl : List (Str × Addr)) (fp : List Addr), PTs (X.blk s H scope (compEnvC scope cl C X.env) fp) ifs1 tt1)
    (he : ∀ (s : Shared) (H : Hp) (C : Addr) (cl : List (Str × Addr)) (fp : List Addr), PE (X.blk s H scope (compEnvC scope cl C X.env) fp) elt te) (hs : ∀ x, foldedSetIterable iter X.env x = pure x := by intro _; rfl) (hs1 : ∀ env x, foldedSetIterable iter1 env x = pure x := by intro _ _; rfl) :
    PE X (.ListComp elt [⟨tg, iter, ifs, 0⟩, ⟨tg1, iter1, ifs1, 0⟩] scope pos) (dLc2 wi g tt wi1 g1 tt1 te (own.map (·.2)) vs1) := L2.pe_lc2 hc hN (pi_wr hi) ok hv hg ht (fun s H C cl fp => pi_wr (hi1 s H C cl fp)) hg1 ht1 he hs hs1
theorem ps_setLc2 {i : Nat} {y : Str} {py : Pos} (hc : X.calm = true) (hN : X.N.Nodup) (hy : X.N[i]? = some y) (hyl : X.env.scope.names.lookup y = some .local)
    (hsw : swapsWith (.ListComp elt [⟨tg, iter, ifs, 0⟩, ⟨tg1, iter1, ifs1, 0⟩] scope pos) (some (.Name y py)) spos.line X.env = pure true) (hi : PI X tg iter wi) (ok : BlkOk X.N X.env.scope scope own) (hv : ∀ i ∈ vs1, i ∈ own.map (·.2))
    (hg : ∀ (s : Shared) (H : Hp) (C : Addr) (cl : List (Str × Addr)) (fp : List Addr), PG (X.blk s H scope (compEnvC scope cl C X.env) fp) tg g) (ht : ∀ (s : Shared) (H : Hp) (C : Addr) (cl : List (Str × Addr)) (fp : List Addr), PTs (X.blk s H scope (compEnvC scope cl C X.env) fp) ifs tt)
    (hi1 : ∀ (s : Shared) (H : Hp) (C : Addr) (cl : List (Str × Addr)) (fp : List Addr), PI (X.blk s H scope (compEnvC scope cl C X.env) fp) tg1 iter1 wi1)
    (hg1 : ∀ (s : Shared) (H : Hp) (C : Addr) (cl : List (Str × Addr)) (fp : List Addr), PG (X.blk s H scope (compEnvC scope cl C X.env) fp) tg1 g1) (ht1 : ∀ (s : Shared) (H : Hp) (C : Addr) (cl : List (Str × Addr)) (fp : List Addr), PTs (X.blk s H scope (compEnvC scope cl C X.env) fp) ifs1 tt1)
    (he : ∀ (s : Shared) (H : Hp) (C : Addr) (cl : List (Str × Addr)) (fp : List Addr), PE (X.blk s H scope (compEnvC scope cl C X.env) fp) elt te) (hs : ∀ x, foldedSetIterable iter X.env x = pure x := by intro _; rfl) (hs1 : ∀ env x, foldedSetIterable iter1 env x = pure x := by intro _ _; rfl) :
    PS X (.Assign [.Name y py] (.ListComp elt [⟨tg, iter, ifs, 0⟩, ⟨tg1, iter1, ifs1, 0⟩] scope pos) spos) (tAsg (dLc2 wi g tt wi1 g1 tt1 te (own.map (·.2)) vs1) (gName i)) := L2.ps_setLc2 hc hN hy hyl hsw (pi_wr hi) ok hv hg ht (fun s H C cl fp => pi_wr (hi1 s H C cl fp)) hg1 ht1 he hs hs1
end
/-- over a list or a tuple that stood at H0, by a word over (turn, heap) -/
theorem lc2_seq {K : Frag} {p : Addr} {xs : List V} {g : TG} {tt : TT} {wi1 : TI} {g1 : TG} {tt1 : TT} {te : TE} {vs vs1 : List Nat} {σ : L2.St} {H0 H1 : Hp} {Q : VK} (hx : SqA K H0 p xs) (e0 : Same H0 H1)
    (h : ∀ D, H1 D = none → ∃ Pv : Nat → Hp → Prop, Pv 0 (upd H1 D (.lst [])) ∧ (∀ i H, i ≤ xs.length → Pv i H → Same H0 H) ∧
      (∀ i x H, xs[i]? = some x → Pv i H → g x (wipe σ vs) H fun σ2 H2 => wipe σ2 vs = wipe σ vs ∧ tt σ2 H2 fun b H3 =>
        if b = true then wi1 σ2 H3 (Wr (Lc2In D g1 tt1 te vs1 σ2 (Pv (i + 1)))) else Pv (i + 1) H3) ∧ (∀ H, Pv xs.length H → Q (.ref D) H)) :
    Walk K H1 p (Wr (Lc2Go g tt wi1 g1 tt1 te vs vs1 σ Q)) := by
  rcases hx with hx | hx
  · refine ⟨.inl ⟨⟨xs, e0.seq hx⟩, ⟨fun D hD => ?_⟩⟩⟩
    obtain ⟨Pv, h0, hl, hs, hd⟩ := h D hD
    refine ⟨fun i m H => m = xs.length - i ∧ i ≤ xs.length ∧ Pv i H, ⟨xs.length, by simp, Nat.zero_le _, h0⟩, ?_⟩
    rintro i m H ⟨rfl, hi, p⟩
    have q := (hl i H hi p).seq hx
    by_cases hlt : i < xs.length
    · refine .inr ⟨⟨xs, xs[i], q, by simp [hlt]⟩, Pv (i + 1), fun H' p' => ⟨xs.length - (i + 1), by omega, rfl, hlt, p'⟩, fun x H' y => ?_⟩
      obtain ⟨e, y⟩ := y
      subst e
      exact hs i x _ (y xs q) p
    · have e : i = xs.length := by omega
      subst e
      exact .inl ⟨⟨xs, q, Nat.le_refl _⟩, hd H p⟩
  · refine ⟨.inr ⟨⟨xs, Same.tup e0 hx⟩, ⟨fun D hD => ?_⟩⟩⟩
    obtain ⟨Pv, h0, hl, hs, hd⟩ := h D hD
    refine ⟨fun i m H => m = xs.length - i ∧ i ≤ xs.length ∧ Pv i H, ⟨xs.length, by simp, Nat.zero_le _, h0⟩, ?_⟩
    rintro i m H ⟨rfl, hi, p⟩
    have q := Same.tup (hl i H hi p) hx
    by_cases hlt : i < xs.length
    · refine .inr ⟨⟨xs, xs[i], q, by simp [hlt]⟩, Pv (i + 1), fun H' p' => ⟨xs.length - (i + 1), by omega, rfl, hlt, p'⟩, fun x H' y => ?_⟩
      obtain ⟨e, y⟩ := y
      subst e
      exact hs i x _ (y xs q) p
    · have e : i = xs.length := by omega
      subst e
      exact .inl ⟨⟨xs, q, Nat.le_refl _⟩, hd H p⟩
/-- the second loop over a range -/
theorem lc2_rng {lo : Int} {n : Nat} {D : Addr} {g1 : TG} {tt1 : TT} {te : TE} {vs1 : List Nat} {σ2 : L2.St} {Nx : Hp → Prop} {H4 : Hp} (Pw : Nat → Hp → Prop) (h0 : Pw 0 H4)
    (hs : ∀ j H, j < n → Pw j H → g1 (.int (lo + j)) (wipe σ2 vs1) H fun σ3 H5 => wipe σ3 vs1 = wipe σ2 vs1 ∧ tt1 σ3 H5 fun b H6 =>
      if b = true then te σ3 H6 fun y H7 => ∃ acc, H7 D = some (.lst acc) ∧ acc.length < sizeLine ∧ Pw (j + 1) (upd H7 D (.lst (acc ++ [y]))) else Pw (j + 1) H6) (hd : ∀ H, Pw n H → Nx H) :
    Wr (Lc2In D g1 tt1 te vs1 σ2 Nx) (Itr lo n) H4 := by
  refine ⟨fun i m H => m = n - i ∧ i ≤ n ∧ Pw i H, ⟨n, by simp, Nat.zero_le _, h0⟩, ?_⟩
  rintro i m H ⟨rfl, hi, p⟩
  by_cases hlt : i < n
  · refine .inr ⟨hlt, Pw (i + 1), fun H' p' => ⟨n - (i + 1), by omega, rfl, hlt, p'⟩, fun x H' y => ?_⟩
    obtain ⟨e, y⟩ := y
    subst e y
    exact hs i _ hlt p
  · have e : i = n := by omega
    subst e
    exact .inl ⟨Nat.le_refl _, hd H p⟩
/-- the second loop over a list or a tuple -/
theorem lc2_in {K : Frag} {p : Addr} {xs : List V} {D : Addr} {g1 : TG} {tt1 : TT} {te : TE} {vs1 : List Nat} {σ2 : L2.St} {Nx : Hp → Prop} {H0 H4 : Hp} (hx : SqA K H0 p xs) (e0 : Same H0 H4) (Pw : Nat → Hp → Prop) (h0 : Pw 0 H4) (hl : ∀ j H, Pw j H → Same H0 H)
    (hs : ∀ j x H, xs[j]? = some x → Pw j H → g1 x (wipe σ2 vs1) H fun σ3 H5 => wipe σ3 vs1 = wipe σ2 vs1 ∧ tt1 σ3 H5 fun b H6 =>
      if b = true then te σ3 H6 fun y H7 => ∃ acc, H7 D = some (.lst acc) ∧ acc.length < sizeLine ∧ Pw (j + 1) (upd H7 D (.lst (acc ++ [y]))) else Pw (j + 1) H6) (hd : ∀ H, Pw xs.length H → Nx H) :
    Walk K H4 p (Wr (Lc2In D g1 tt1 te vs1 σ2 Nx)) := by
  rcases hx with hx | hx
  · refine ⟨.inl ⟨⟨xs, e0.seq hx⟩, ⟨?_⟩⟩⟩
    refine ⟨fun i m H => m = xs.length - i ∧ i ≤ xs.length ∧ Pw i H, ⟨xs.length, by simp, Nat.zero_le _, h0⟩, ?_⟩
    rintro i m H ⟨rfl, hi, p⟩
    have q := (hl i H p).seq hx
    by_cases hlt : i < xs.length
    · refine .inr ⟨⟨xs, xs[i], q, by simp [hlt]⟩, Pw (i + 1), fun H' p' => ⟨xs.length - (i + 1), by omega, rfl, hlt, p'⟩, fun x H' y => ?_⟩
      obtain ⟨e, y⟩ := y
      subst e
      exact hs i x _ (y xs q) p
    · have e : i = xs.length := by omega
      subst e
      exact .inl ⟨⟨xs, q, Nat.le_refl _⟩, hd H p⟩
  · refine ⟨.inr ⟨⟨xs, Same.tup e0 hx⟩, ⟨?_⟩⟩⟩
    refine ⟨fun i m H => m = xs.length - i ∧ i ≤ xs.length ∧ Pw i H, ⟨xs.length, by simp, Nat.zero_le _, h0⟩, ?_⟩
    rintro i m H ⟨rfl, hi, p⟩
    have q := Same.tup (hl i H p) hx
    by_cases hlt : i < xs.length
    · refine .inr ⟨⟨xs, xs[i], q, by simp [hlt]⟩, Pw (i + 1), fun H' p' => ⟨xs.length - (i + 1), by omega, rfl, hlt, p'⟩, fun x H' y => ?_⟩
      obtain ⟨e, y⟩ := y
      subst e
      exact hs i x _ (y xs q) p
    · have e : i = xs.length := by omega
      subst e
      exact .inl ⟨⟨xs, q, Nat.le_refl _⟩, hd H p⟩
end S
namespace S
open PySem PySem.Spec PyProof.Rows L2
structure LRg (a b : Int) (H : Hp) (Q : VK) : Prop where
  c : RgOk a b
  q : ∀ q, H q = none → Q (.ref q) (upd H q (.lst (rgV a b)))
def dLstR1 (ta : TE) : TE := fun σ H Q => ta σ H fun x H1 => match x with
  | .int n => LRg 0 n H1 Q
  | _ => False
theorem pe_lstR1 {X : Cx} {e : Expr} {ta : TE} {p p2 pos pos2 : Pos} (hc : X.calm = true) (hm : X.mg "list" = none) (hm2 : X.mg "range" = none) (ha : PE X e ta) (hg : Gl X "list" := by rfl) (hg2 : Gl X "range" := by rfl) (na : starEach [e] X.env = (false, eval e X.env) :: starEach [] X.env := by rfl)
    (na2 : starEach [.Call (.Name "range" p2) [e] [] pos2] X.env = (false, eval (.Call (.Name "range" p2) [e] [] pos2) X.env) :: starEach [] X.env := by rfl) : PE X (.Call (.Name "list" p) [.Call (.Name "range" p2) [e] [] pos2] [] pos) (dLstR1 ta) := by
  have h := pe_listRg (p := p) (pos := pos) hc hg hm (prg_1 (p := p2) (pos := pos2) hg2 hm2 (pe_up ha) na) na2
  refine PE.of h fun σ H Q q => ?_
  refine ⟨_, q, fun x H1 q1 => ?_⟩
  cases x <;> try exact q1.elim
  exact ⟨_, rfl, q1.c, q1.q⟩
/-- o.m(k = v, ..), o an instance with a dict -/
theorem pe_methDK0 {X : Cx} {k n : Nat} {g : Addr} {ks : List Str} {sp : Sp} {E : L2.St → XK} {c m : Str} {pos apos : Pos} {o : Expr} {kws : List Keyword} {tk : TA} {ta : TE} {gV : List V → List V → List V} {pl : Sem Bool} (hc : Cls X.K (He.ga X.K c)) (hm : Meth X.K (He.ga X.K c) m g) (F : FK X.prog X.w X.K X.mg X.base k g n ks sp gV) (hr : Room k X.A) (hx : ∀ σ, PassesAt (L2.CX X.prog X.w) X σ (E σ)) (he : PE X o ta) (hkw : PK X kws tk)
    (hall : (backToKw pos (keywordEach kws X.env)).all (·.1.isSome) = true := by rfl) (hks : (backToKw pos (keywordEach kws X.env)).filterMap (·.1) = ks := by rfl)
    (hpl : ((backTo pos (starEach [] X.env)).any (·.1) || (backToKw pos (keywordEach kws X.env)).any (·.1.isNone)) = false := by rfl)
    (ht : eval (.Call (.Attribute o m apos) [] kws pos) X.env = (do
      let ov ← eval o X.env
      standAt apos.atName
      let (f, first) ← holding [ov] (getMethod ov m pl)
      callWith pos f first (backTo pos (starEach [] X.env)) (backToKw pos (keywordEach kws X.env))) := by rfl) :
    PE X (.Call (.Attribute o m apos) [] kws pos) (dMethDK X.K c m n ks.length sp gV E ta tNil tk) := by
  refine ⟨fun pins s σ H Q I h => ?_⟩
  refine PySem.W.methodCall_KW (pl := pl) (thn (he.run pins s σ H _ I h) fun u s1 ⟨x, H1, I1, rx, q⟩ => ?_) ht
  cases x <;> try exact q.elim
  cases rx
  obtain ⟨⟨dx, fs, ea, l⟩, q⟩ := q
  refine getmeth_ok I1 ea hc hm l ?_
  refine PySem.W.callWith_KW0 (first := [.ref _]) (h₀ := X.base) I.ok.mod.kin hm.kp hall ?_ hpl
  refine thn (hkw.run pos pins s1 σ H1 _ I1 q) fun ws s3 ⟨zs, H3, I3, rz, l1, l2, q3⟩ => ⟨I3.kIn, ?_⟩
  rw [hks]
  exact run_FK (us := [.ref _]) (vs := [.ref _]) F hr (hx σ) I3 (.cons rfl .nil) rz (by simpa using l1) l2 q3
end S
namespace S
open PySem PySem.Spec PyProof.Rows L2
/-- the first difference decides, else the shorter is the less -/
def ltL : List Int → List Int → Bool := PySem.W.listLt
structure LeLs (K : Frag) (H : Hp) (a b : Addr) (k : Bool → Prop) : Prop where
  ex : ∃ xs ys : List Int, SqL K H a (xs.map V.int) ∧ SqL K H b (ys.map V.int) ∧ k (!ltL ys xs)
def oLeL (K : Frag) : R2 := fun x y H Q => match x, y with
  | .ref a, .ref b => LeLs K H a b fun r => Q (.bl r) H
  | x, y => oLe x y H Q
theorem o_leL {X : Cx} (hu : X.A.units + 64 < cLine) : OpR X (compareOp .LtE) (oLeL X.K) := by
  have h0 : OpR X (compareOp .LtE) oLe := o_le
  intro pins s σ H x y v u Q I rx ry q
  have two : ∀ a b, x = .ref a → y = .ref b → LeLs X.K H a b (fun r => Q (.bl r) H) → wpAny (model X.prog X.w) X.A (compareOp .LtE v u) (EP X pins σ Q) X.xe s := by
    intro a b ea eb h
    subst ea eb
    obtain ⟨xs, ys, hx, hy, q⟩ := h.ex
    have Ha : PySem.W.Holds s.heap v xs := by
      obtain ⟨as, h⟩ := Dp.reads I _ _ _ (.lst hx (dpAll_ints xs)) rx
      exact ⟨as, h⟩
    have Hb : PySem.W.Holds s.heap u ys := by
      obtain ⟨as, h⟩ := Dp.reads I _ _ _ (.lst hy (dpAll_ints ys)) ry
      exact ⟨as, h⟩
    exact PySem.W.le_datum Ha Hb (by show X.A.units + (0 + 1) < cLine; omega) ⟨.bl _, H, I, rfl, q⟩
  cases x <;> cases y <;> first
    | exact two _ _ rfl rfl q
    | exact h0 pins s σ H _ _ v u Q I rx ry q
end S
namespace S
open PySem PySem.Spec PyProof.Rows L2
def top (i : Nat) : Stmt := PySem.Challenge.pw_slicedcolumns_k37_reading_order.main.body.getD i (.Pass ⟨0, 0, 0, 0⟩)
abbrev s__law_draw : Stmt := top 11
abbrev s__law_names : Stmt := top 12
abbrev s_is_name : Stmt := top 8
abbrev s_Schemadd_initdd : Stmt := inClass (top 9) 0
abbrev s_Schema_reading_order : Stmt := inClass (top 9) 4
abbrev s__law_is_number : Stmt := top 13
abbrev s__law_index_of : Stmt := top 14
abbrev s__law_is_order : Stmt := top 15
abbrev s__law_refused : Stmt := top 16
abbrev s_law : Stmt := top 17
def hfn : List DfX := (⟨fun K => He.fAd K ("_law_draw", none), "_law_draw", "_law_draw", defArgs s__law_draw, defBody s__law_draw, defScope s__law_draw, [], [], []⟩ : DfX) :: (⟨fun K => He.fAd K ("_law_names", none), "_law_names", "_law_names", defArgs s__law_names, defBody s__law_names, defScope s__law_names, [], [], []⟩ : DfX) :: (⟨fun K => He.fAd K ("is_name", none), "is_name", "is_name", defArgs s_is_name, defBody s_is_name, defScope s_is_name, [], [], []⟩ : DfX) :: (⟨fun K => He.fAd K ("Schema", some "__init__"), "__init__", "Schema.__init__", defArgs s_Schemadd_initdd, defBody s_Schemadd_initdd, defScope s_Schemadd_initdd, [], [], []⟩ : DfX) :: (⟨fun K => He.fAd K ("Schema", some "reading_order"), "reading_order", "Schema.reading_order", defArgs s_Schema_reading_order, defBody s_Schema_reading_order, defScope s_Schema_reading_order, [.str "high"], [], []⟩ : DfX) :: (⟨fun K => He.fAd K ("_law_is_number", none), "_law_is_number", "_law_is_number", defArgs s__law_is_number, defBody s__law_is_number, defScope s__law_is_number, [], [], []⟩ : DfX) :: (⟨fun K => He.fAd K ("_law_index_of", none), "_law_index_of", "_law_index_of", defArgs s__law_index_of, defBody s__law_index_of, defScope s__law_index_of, [], [], []⟩ : DfX) :: (⟨fun K => He.fAd K ("_law_is_order", none), "_law_is_order", "_law_is_order", defArgs s__law_is_order, defBody s__law_is_order, defScope s__law_is_order, [], [], []⟩ : DfX) :: (⟨fun K => He.fAd K ("_law_refused", none), "_law_refused", "_law_refused", defArgs s__law_refused, defBody s__law_refused, defScope s__law_refused, [], [], []⟩ : DfX) :: (⟨fun K => He.fAd K ("law", none), "law", "law", defArgs s_law, defBody s_law, defScope s_law, [], [], []⟩ : DfX) :: []
abbrev hP : Program := PySem.Challenge.rw_slicedcolumns_k37_reading_order.prog
def hfx : List (Frag → Bool) := (dfB "Schema" [] ["columns"]) :: (rsB "BadOrder") :: (rsB "BadSchema") :: (exfB "BadOrder" ["SliceError"]) :: (exfB "BadSchema" ["SliceError"]) :: (exfB "SliceError" []) :: []
def hfa : List He.Fa := (.glo "BadOrder") :: (.glo "BadSchema") :: (.glo "Schema") :: (.glo "SliceError") :: (.glo "_law_draw") :: (.glo "_law_index_of") :: (.glo "_law_is_number") :: (.glo "_law_is_order") :: (.glo "_law_names") :: (.glo "_law_refused") :: (.glo "is_name") :: (.glo "law") :: (.free "ValueError") :: (.free "abs") :: (.free "bool") :: (.free "int") :: (.free "isinstance") :: (.free "len") :: (.free "list") :: (.free "max") :: (.free "range") :: (.free "str") :: (.free "sum") :: (.free "tuple") :: (.mkr "Schema") :: (.meth "Schema" "reading_order") :: (.str "LETTERS" "abcdefghijklmnopqrstuvwxyz") :: (.int "LONGEST" 8) :: []
abbrev hR : PySem.W.OpenRow := PySem.W.OpenLaw.row PySem.Challenge.rw_slicedcolumns_k37_reading_order
def hloose : List Str := "_wall" :: "SliceError" :: "BadSchema" :: "BadOrder" :: "LETTERS" :: "LONGEST" :: "is_name" :: "Schema" :: "_law_draw" :: "_law_names" :: "_law_is_number" :: "_law_index_of" :: "_law_is_order" :: "_law_refused" :: []
def hnm : List Str := "SliceError" :: "BadSchema" :: "BadOrder" :: "is_name" :: "Schema" :: "_law_draw" :: "_law_names" :: "_law_is_number" :: "_law_index_of" :: "_law_is_order" :: "_law_refused" :: "law" :: []
abbrev hhk : PySem.W.Hook := hookY hnm hfa hfx hfn
def hob (s : PySem.W.SharedT) : AlX := obsYG hnm hfa hfx hfn (HandSHeadRun.getT s)
theorem hob_eq (s : PySem.W.SharedT) : hob s = hhk.obs s.abs := obsYG_eq (HandSHeadRun.getT_eq s)
section
open HandSHeadRun PySem.W
theorem hq1 (w : World) (os : OsState) : (HandSHeadRun.endF (HandSHeadRun.stepQ (HandSHeadRun.denQ HandSHeadRun.tabQ) hR.prog w) 16000 hR.prog w os).map (fun s => (HandSHeadRun.looksF hR.prog (boot_heap w.params) s.abs, HandSHeadRun.seenQ (PySem.W.view hR.prog [17]) hloose (importedModules hR.prog.main.body) (fun s => xlAt (PySem.W.view hR.prog [17]) [] s && recOk hR.toRowW.records s) s.abs)) = some (true, openGood (PySem.W.view hR.prog [17]) hloose) := by kernel_rfl
theorem hq2 (w : World) (os : OsState) : (HandSHeadRun.endF (HandSHeadRun.stepQ (HandSHeadRun.denQ HandSHeadRun.tabQ) hR.prog w) 16000 hR.prog w os).map (fun s => hob s) = some (hhk.val w) := by kernel_rfl
end
theorem hrun (w : World) : HandSHeadRun.RunEq hR (PySem.W.view hR.prog [17]) hhk hob 16000 hloose w := by
  intro os
  exact run_split2 (hq1 w os) (hq2 w os)
end S
/-! ## short tactics (local rows) -/
open PySem PySem.Spec PyProof.Rows L2 S in
local macro_rules | `(tactic| walk_at "ne") => `(tactic| first | assumption | (apply Ne.symm; assumption) | (apply ne_of_none <;> assumption))
open PySem PySem.Spec PyProof.Rows L2 S in
local macro_rules | `(tactic| walk_at "hp") => `(tactic| first | assumption | exact upd_same | (refine' up_of ?n1 ?h1; (case n1 => walk_at "ne"); (case h1 => walk_at "hp")))
open PySem PySem.Spec PyProof.Rows L2 S in
local macro_rules | `(tactic| walk_at "sx") => `(tactic| first | assumption | exact SameX.refl _ _ | (refine' SameX.put ?h1; (case h1 => walk_at "sx")))
open PySem PySem.Spec PyProof.Rows L2 S in
local macro_rules | `(tactic| walk_at "sl") => `(tactic| first | assumption | (refine' appS ?h1 ?e1; (case h1 => assumption); (case e1 => walk_at "sx")) | (refine' sl_upd ?h1 ?n1; (case n1 => walk_at "ne"); (case h1 => walk_at "sl")))
open PySem PySem.Spec PyProof.Rows L2 S in
local macro_rules | `(tactic| walk_at "st") => `(tactic| first | assumption | (refine' st_upd ?h1 ?n1; (case n1 => walk_at "ne"); (case h1 => walk_at "st")))
open PySem PySem.Spec PyProof.Rows L2 S in
local macro_rules | `(tactic| walk_at "ar") => `(tactic| first | omega | decide | (exact ⟨by decide, by decide⟩) | (exact ⟨by decide, by decide, by decide⟩) | (simp only [CDiv, CPow, CMul]; omega) | (exact .inl (by omega)) | (exact .inr (by omega)) | (simp only [sizeLine_eq, List.length_map, List.length_cons, List.length_nil, List.length_append, List.length_reverse]; omega))
open PySem PySem.Spec PyProof.Rows L2 S in
local macro_rules | `(tactic| walk_at "rd") => `(tactic| first
  | (refine' Rd.l ?h1 ?h2; (case h1 => walk_at "hp"))
  | (refine' Rd.sl ?h1 ?h2; (case h1 => walk_at "sl"))
  | (refine' Rd.st ?h1 ?h2; (case h1 => walk_at "st"))
  | (refine' Rd.sa ?h1 ?h2; (case h1 => assumption))
  | (refine' S.At.of ?h1 ?h2; (case h1 => (first | rfl | assumption)))
  | (refine' Ls.of ?h1 ?h2; (case h1 => walk_at "hp"))
  | (refine' IsL.of ?h1 ?h2; (case h1 => walk_at "hp"))
  | (refine' Pl.of ?h1 ?h2; (case h1 => rfl))
  | (refine' Need.mk ?h1 ?h2; (case h1 => walk_at "ar")))
open PySem PySem.Spec PyProof.Rows L2 S in
local macro_rules | `(tactic| walk_at "go") => `(tactic| (repeat walk_at "rd"))
open PySem PySem.Spec PyProof.Rows L2 S in
local macro_rules | `(tactic| walk_at "gx") => `(tactic| (repeat (first | walk_at "rd" | refine' Stop.mk ?_)))
/-! ## the laws' own harness: draws -/
namespace S
open PySem PySem.Spec PyProof.Rows L2
theorem at_ints {ns : List Int} {i : Int} (h0 : 0 ≤ i) (h1 : i < ns.length) : ∃ x, atI (ns.map V.int) i = some (.int x) := by
  obtain ⟨j, rfl⟩ := Int.eq_ofNat_of_zero_le h0
  have hl : j < ns.length := by omega
  refine ⟨ns[j], atI_nat ?_⟩
  rw [List.getElem?_map, List.getElem?_eq_getElem hl]
  rfl
/-- the state of the draws: place, left, number, kind -/
def DrawSt (l : List V) : Prop := ∃ a b n k : Int, l = [.int a, .int b, .int n, .int k] ∧ 0 ≤ a ∧ 0 ≤ n ∧ (b = 0 ∨ k = 2 ∨ n < 10 ^ 18)
/-- the script at a: the calls leave it -/
def ScrAt (K : Frag) (H : Hp) (a st : Addr) (ns : List Int) : Prop := (a ≠ st ∧ SqL K H a (ns.map V.int)) ∨ ∀ H', SqL K H' a (ns.map V.int)
/-- the script at a, the state at st -/
structure Ctx (K : Frag) (H : Hp) (a st : Addr) : Prop where
  scr : ∃ ns : List Int, ScrAt K H a st ns
  stt : ∃ l, H st = some (.lst l) ∧ DrawSt l
theorem ScrAt.sl {K : Frag} {H : Hp} {a st : Addr} {ns : List Int} (h : ScrAt K H a st ns) : SqL K H a (ns.map V.int) := by
  rcases h with ⟨_, h⟩ | h
  · exact h
  · exact h H
theorem ScrAt.x {K : Frag} {H H' : Hp} {a st : Addr} {ns : List Int} (h : ScrAt K H a st ns) (e : SameX st H H') : ScrAt K H' a st ns := by
  rcases h with ⟨n, h⟩ | h
  · exact .inl ⟨n, e.seq h n⟩
  · exact .inr h
theorem ScrAt.same {K : Frag} {H H' : Hp} {a st : Addr} {ns : List Int} (h : ScrAt K H a st ns) (e : Same H H') : ScrAt K H' a st ns := h.x (Same.x e)
theorem Ctx.same {K : Frag} {H H' : Hp} {a st : Addr} (c : Ctx K H a st) (e : Same H H') : Ctx K H' a st := by
  obtain ⟨⟨ns, h⟩, l, hl, d⟩ := c
  exact ⟨⟨ns, h.same e⟩, l, e _ _ hl, d⟩
def sp__law_draw (K : Frag) : Sp := fun vs H Q _ => ∃ (a st : Addr) (base : Int), vs = [.ref a, .ref st, .int base] ∧ Ctx K H a st ∧ 0 < base ∧
  ∀ (r : Int) (H' : Hp), 0 ≤ r → r < base → Ctx K H' a st → SameX st H H' → Q (.int r) H'
/-- a list made behind H0 may change -/
theorem SameX.mut {st : Addr} {H0 H1 : Hp} {p : Addr} {o : HO} (e : SameX st H0 H1) (n : H0 p = none) : SameX st H0 (L2.upd H1 p o) := fun b u h k => by
  rw [upd_ne (ne_of_none h n)]
  exact e b u h k
theorem Same.mut {H0 H1 : Hp} {p : Addr} {o : HO} (e : Same H0 H1) (n : H0 p = none) : Same H0 (upd H1 p o) := fun b u h => by
  rw [upd_ne (ne_of_none h n)]
  exact e b u h
theorem Ctx.mut {K : Frag} {H0 H1 : Hp} {a st p : Addr} {o : HO} (c : Ctx K H1 a st) (e : Ctx K H0 a st) (n : H0 p = none) : Ctx K (L2.upd H1 p o) a st := by
  obtain ⟨⟨ns, h⟩, l, hl, d⟩ := c
  obtain ⟨⟨ns0, h0⟩, l0, hl0, d0⟩ := e
  have n1 : st ≠ p := ne_of_none hl0 n
  refine ⟨?_, l, by rw [upd_ne n1]; exact hl, d⟩
  rcases h with ⟨na, h⟩ | h
  · by_cases e : a = p
    · subst e
      rcases h0.sl with (h0 | ⟨_, h0⟩) | h0
      · rw [n] at h0; cases h0
      · rw [n] at h0; cases h0
      · exact ⟨ns0, .inr fun H' => .inr h0⟩
    · exact ⟨ns, .inl ⟨na, sl_upd h e⟩⟩
  · exact ⟨ns, .inr h⟩
/-- ends ascending within a size -/
def Ends (size : Int) (ns : List Int) : Prop := ns.Pairwise (· < ·) ∧ ∀ x ∈ ns, 0 ≤ x ∧ x < size
theorem Ends.snoc {size at_ : Int} {ns : List Int} (h : Ends size ns) (hb : ∀ x ∈ ns, x < at_) (h0 : 0 ≤ at_) (h1 : at_ < size) : Ends size (ns ++ [at_]) := by
  refine ⟨List.pairwise_append.mpr ⟨h.1, List.pairwise_singleton _ _, fun x hx y hy => ?_⟩, fun x hx => ?_⟩
  · rw [List.mem_singleton.mp hy]
    exact hb x hx
  · rcases List.mem_append.mp hx with hx | hx
    · exact h.2 x hx
    · rw [List.mem_singleton.mp hx]
      exact ⟨h0, h1⟩
end S
-- deps: D0
/-! ## data compared, isinstance -/
namespace S
open PySem PySem.Spec PyProof.Rows L2
theorem dp_ints {K : Frag} {H : Hp} : ∀ ns : List Int, DpAll K H (ns.map V.int) (ns.map PyData.int)
  | [] => .nil
  | n :: r => .cons (.int n) (dp_ints r)
theorem can_ints : ∀ ns : List Int, PyData.canLayAll0 (ns.map PyData.int) = true
  | [] => rfl
  | n :: r => by
    show (PyData.canLay0 (.int n) && PyData.canLayAll0 (r.map PyData.int)) = true
    rw [can_ints r]; rfl
theorem dep_ints : ∀ ns : List Int, PyData.depthAll (ns.map PyData.int) = 0
  | [] => rfl
  | n :: r => by
    show max (PyData.depth (.int n)) (PyData.depthAll (r.map PyData.int)) = 0
    rw [dep_ints r]; rfl
theorem shp_ints (ns : List Int) : SeqAt.shaped (.list (ns.map PyData.int)) = true := by
  unfold SeqAt.shaped
  have e1 : PyData.canLay0 (.list (ns.map PyData.int)) = true := can_ints ns
  have e2 : PyData.depth (.list (ns.map PyData.int)) = 1 := by show PyData.depthAll _ + 1 = 1; rw [dep_ints]
  rw [e1, e2]; rfl
theorem eqv_ints : ∀ xs ys : List Int, PyData.eqvAll (xs.map PyData.int) (ys.map PyData.int) = decide (xs = ys)
  | [], [] => rfl
  | [], _ :: _ => by simp [PyData.eqvAll]
  | _ :: _, [] => by simp [PyData.eqvAll]
  | x :: xs, y :: ys => by
    show (PyData.eqv (.int x) (.int y) && PyData.eqvAll (xs.map PyData.int) (ys.map PyData.int)) = _
    rw [eqv_ints xs ys]
    show ((x == y) && decide (xs = ys)) = _
    by_cases h : x = y <;> by_cases h2 : xs = ys <;> simp [h, h2]
theorem eqd_ll {K : Frag} {H : Hp} {a b : Addr} {xs ys : List Int} {k : Bool → Prop} (h : SqL K H a (xs.map V.int)) (h2 : SqL K H b (ys.map V.int)) (q : k (decide (xs = ys))) : EqD K H (.ref a) (.ref b) k :=
  ⟨_, _, .lst h (dp_ints xs), .lst h2 (dp_ints ys), shp_ints xs, shp_ints ys, by
    have e : PyData.eqv (.list (xs.map PyData.int)) (.list (ys.map PyData.int)) = decide (xs = ys) := eqv_ints xs ys
    rw [e]; exact q⟩
theorem isi_tup {K : Frag} {H : Hp} {p : Addr} {xs : List V} {k : Bool → Prop} (h : SqT K H p xs) (q : k true) : Isi K H (.ref p) (.type "tuple") k := by
  rcases h with (h | ⟨o, h⟩) | ⟨o, its, n, h1, h2, _⟩
  · exact Isi.of (.base (.tup h)) rfl q
  · exact Isi.of (.fTuple h) rfl q
  · exact Isi.of (.kTuple h1 h2) rfl q
theorem isi_lst {K : Frag} {H : Hp} {p : Addr} {xs : List V} {k : Bool → Prop} (h : H p = some (.lst xs)) (q : k true) : Isi K H (.ref p) (.type "list") k := Isi.of (.base (.lst h)) rfl q
theorem map_filter_ints {ns : List Int} (pr : V → Bool) (f : V → V) (p2 : Int → Bool) (f2 : Int → Int) (hp : ∀ i, pr (.int i) = p2 i) (hf : ∀ i, f (.int i) = .int (f2 i)) : ((ns.map V.int).filter pr).map f = ((ns.filter p2).map f2).map V.int := by
  induction ns with
  | nil => rfl
  | cons x r ih =>
    simp only [List.map_cons, List.filter_cons, hp]
    by_cases h : p2 x = true
    · simp only [h, if_true, List.map_cons, hf, ih]
    · rw [if_neg h, if_neg h]; exact ih
theorem Ends.drop {size : Int} {ns : List Int} (h : Ends size ns) (k : Nat) : Ends size (ns.drop k) := ⟨h.1.sublist (List.drop_sublist k ns), fun x hx => h.2 x (List.mem_of_mem_drop hx)⟩
theorem Ends.filter {size : Int} {ns : List Int} (h : Ends size ns) (p : Int → Bool) : Ends size (ns.filter p) := ⟨h.1.filter p, fun x hx => h.2 x ((List.mem_filter.mp hx).1)⟩
theorem Ends.up {size : Int} {ns : List Int} (h : Ends size ns) : Ends size ((ns.filter fun x => decide (x + 1 < size)).map fun x => x + 1) := by
  refine ⟨List.pairwise_map.mpr ((h.1.filter _).imp fun {a b} hab => by omega), fun x hx => ?_⟩
  obtain ⟨y, hy, rfl⟩ := List.mem_map.mp hx
  have h1 := (List.mem_filter.mp hy)
  have h2 := h.2 y h1.1
  have h3 : y + 1 < size := of_decide_eq_true h1.2
  omega
theorem cut_from {ns : List Int} {d : Int} (h : 0 ≤ d) : cutV (ns.map V.int) (some d) none = (ns.drop d.toNat).map V.int := by
  obtain ⟨k, rfl⟩ := Int.eq_ofNat_of_zero_le h
  unfold cutV
  rw [HT.sIx_nat, HT.sIx_none, List.length_map, Int.toNat_natCast, ← List.map_drop]
  by_cases hk : k ≤ ns.length
  · rw [Nat.min_eq_left hk, List.take_of_length_le]
    simp
  · rw [Nat.min_eq_right (by omega), List.drop_eq_nil_of_le (by omega : ns.length ≤ k)]
    simp
def sp_law (K : Frag) : Sp := fun vs H Q _ => ∃ (a : Addr) (ns : List Int), vs = [.ref a] ∧ SqL K H a (ns.map V.int) ∧ ∀ H', Q (.bl true) H'
theorem ctx0 {K : Frag} {H : Hp} {a st : Addr} {ns : List Int} (h : SqL K H a (ns.map V.int)) (hs : H st = none) (l : List V) (d : DrawSt l) : Ctx K (upd H st (.lst l)) a st := by
  refine ⟨⟨ns, ?_⟩, _, upd_same, d⟩
  rcases h with h | h
  · have ne : a ≠ st := by
      rintro rfl
      rcases h with h | ⟨_, h⟩
      · rw [hs] at h; cases h
      · rw [hs] at h; cases h
    exact .inl ⟨ne, sl_upd (.inl h) ne⟩
  · exact .inr fun H' => .inr h
theorem ctx_st {K : Frag} {H : Hp} {a st : Addr} (c : Ctx K H a st) : ∃ l, H st = some (.lst l) := let ⟨_, l, h, _⟩ := c; ⟨l, h⟩
theorem ctx_ne {K : Frag} {H : Hp} {a st p : Addr} (c : Ctx K H a st) (n : H p = none) : p ≠ st := by
  obtain ⟨l, h⟩ := ctx_st c
  exact (ne_of_none h n).symm
theorem pw_lt {ns : List Int} (h : ns.Pairwise (· < ·)) {i j : Nat} {x y : Int} (hij : i < j) (hx : ns[i]? = some x) (hy : ns[j]? = some y) : x < y := by
  obtain ⟨h1, rfl⟩ := List.getElem?_eq_some_iff.mp hx
  obtain ⟨h2, rfl⟩ := List.getElem?_eq_some_iff.mp hy
  exact List.pairwise_iff_getElem.mp h i j h1 h2 hij
end S
namespace S
open PySem PySem.Spec PyProof.Rows L2
def t_is_name_b1 (K : Frag) (E : XK) : TS :=
    dIfS (dCmpT (oNinT K) (dVar 1) (tC (.str "abcdefghijklmnopqrstuvwxyz"))) (tRet (tC (.bl false))) (tNext)
def t_is_name_1 (K : Frag) (E : XK) : TS :=
    tRet (dChain oLe oLe (tC (.int 1)) (tCB (cLen K) (tCons (dVar 0) (tNil))) (tC (.int 8)))
def t_is_name (K : Frag) (E : XK) : TS :=
    tSeq (dFor (iTxt (dVar 0)) (gName 1) (t_is_name_b1 K E))
    (stop (t_is_name_1 K E))
end S
-- fn: is_name
-- law: k36
-- txt: text
-- inS: yes
-- deps: D0 D1
namespace S
open PySem PySem.Spec PyProof.Rows L2
def lowC (c : Nat) : Prop := 97 ≤ c ∧ c ≤ 122
instance (c : Nat) : Decidable (lowC c) := by unfold lowC; infer_instance
theorem abc_list : ("abcdefghijklmnopqrstuvwxyz" : Str).cps.toList = (List.range 26).map fun i => i + 97 := by decide
theorem abc_mem (c : Nat) : c ∈ ("abcdefghijklmnopqrstuvwxyz" : Str).cps.toList ↔ lowC c := by
  rw [abc_list]
  unfold lowC
  constructor
  · intro h
    obtain ⟨i, hi, rfl⟩ := List.mem_map.mp h
    have := List.mem_range.mp hi
    omega
  · intro h
    exact List.mem_map.mpr ⟨c - 97, List.mem_range.mpr (by omega), by omega⟩
/-- the text is a name of a column -/
def nameOk (z : Str) : Prop := (∀ c ∈ z.cps.toList, lowC c) ∧ 1 ≤ z.cps.size ∧ z.cps.size ≤ 8
instance (z : Str) : Decidable (nameOk z) := by unfold nameOk; infer_instance
theorem nameOk.ok {z : Str} (h : nameOk z) : PyData.strOk z = true := by
  unfold PyData.strOk
  rw [← Array.all_toList]
  exact List.all_eq_true.mpr fun c hc => by have := (h.1 c hc).2; exact decide_eq_true (by omega)
def sp_is_name (K : Frag) : Sp := fun vs H Q _ => ∃ z : Str, vs = [.str z] ∧ z.cps.size ≤ 1000 ∧ Q (.bl (decide (nameOk z))) H
theorem pure_is_name {K : Frag} (vs : List V) (H : Hp) (Q : VK) (E : XK) (h : sp_is_name K vs H Q E) : t_is_name K E { nx := fun _ H' => Q .non H', rt := Q } (start ["text", "char"] vs) H := by
  obtain ⟨z, rfl, lz, q⟩ := h
  have hz : z.length ≤ sizeLine := by rw [sizeLine_eq]; show z.cps.size ≤ _; omega
  have hs : z.length = z.cps.size := rfl
  walk_at "gx"
  refine for_txt (fun i σ H1 => H1 = H ∧ (∃ c : Option V, σ = [some (.str z), c]) ∧ ∀ c ∈ z.cps.toList.take i, lowC c) ⟨rfl, ⟨none, rfl⟩, fun _ z => by simp at z⟩ ?_ ?_
  · rintro i c σ H1 hc ⟨rfl, ⟨c0, rfl⟩, hall⟩
    have hc' : z.cps.toList[i]? = some c := by simpa using hc
    walk_at "gx"
    refine ⟨⟨c, rfl, ?_⟩⟩
    refine ifn (fun h => ?_) (fun h => ?_)
    · have e : decide (nameOk z) = false := decide_eq_false fun n => h ((abc_mem c).mpr (n.1 c (List.mem_of_getElem? hc')))
      rw [e] at q
      exact q
    · refine ⟨rfl, ⟨_, rfl⟩, fun d hd => ?_⟩
      rw [List.take_add_one, hc'] at hd
      rcases List.mem_append.mp hd with hd | hd
      · exact hall d hd
      · rw [show d = c by simpa using hd]; exact (abc_mem c).mp h
  · rintro σ H1 ⟨rfl, ⟨c0, rfl⟩, hall⟩
    rw [List.take_of_length_le (by simp)] at hall
    walk_at "gx"
    refine ifd (fun h => ?_) (fun h => ?_)
    · have e : decide (nameOk z) = decide ((z.length : Int) ≤ 8) := decide_eq_decide.mpr ⟨fun n => by have := n.2.2; omega, fun n => ⟨hall, by omega, by omega⟩⟩
      rw [e] at q
      exact q
    · have e : decide (nameOk z) = false := decide_eq_false fun n => by have := n.2.1; omega
      rw [e] at q
      exact q
end S
-- deps: D0 D1
/-! ## pairs of a name and a number -/
namespace S
open PySem PySem.Spec PyProof.Rows L2
abbrev XE (K : Frag) (x : Str) : Prop := ExF K x ["SliceError"]
abbrev Col : Type := Str × Int
def ColT (K : Frag) (H : Hp) (c : Col) (y : V) : Prop := ∃ a, y = .ref a ∧ SqT K H a [.str c.1, .int c.2]
def Cols (K : Frag) (H : Hp) (ys : List V) (cs : List Col) : Prop := Paired (ColT K H) cs ys
section
variable {K : Frag} {H H' : Hp} {ys zs : List V} {cs ds : List Col}
theorem Cols.same (h : Cols K H ys cs) (e : Same H H') : Cols K H' ys cs := Paired.mapP h fun _ _ ⟨a, h1, h2⟩ => ⟨a, h1, Same.tup e h2⟩
theorem Cols.x {st : Addr} {l : List V} (h : Cols K H ys cs) (e : SameX st H H') (hst : H st = some (.lst l)) : Cols K H' ys cs := Paired.mapP h fun _ _ ⟨a, h1, h2⟩ => ⟨a, h1, e.tup h2 hst⟩
theorem colD (c : Col) : PySem.W.Datum.toD c = PyData.tuple [.str c.1, .int c.2] := rfl
theorem dp_cols : ∀ {ys : List V} {cs : List Col}, Cols K H ys cs → DpAll K H ys (cs.map PySem.W.Datum.toD)
  | _, _, .nil => .nil
  | _, _, .cons ⟨_, e, h⟩ r => by subst e; exact .cons (.tup h (.cons (.str _) (.cons (.int _) .nil))) (dp_cols r)
theorem can_cols : ∀ cs : List Col, (∀ c ∈ cs, PyData.strOk c.1 = true) → PyData.canLayAll0 (cs.map PySem.W.Datum.toD) = true
  | [], _ => rfl
  | c :: r, h => by
    show (PyData.canLayAll0 [.str c.1, .int c.2] && PyData.canLayAll0 (r.map PySem.W.Datum.toD)) = true
    rw [can_cols r fun d hd => h d (List.mem_cons_of_mem _ hd)]
    have := h c (List.mem_cons_self ..)
    simp [PyData.canLayAll0, PyData.canLay0, this]
theorem dep_cols : ∀ cs : List Col, PyData.depthAll (cs.map PySem.W.Datum.toD) ≤ 1
  | [] => Nat.zero_le _
  | c :: r => by
    show max (PyData.depthAll [.str c.1, .int c.2] + 1) (PyData.depthAll (r.map PySem.W.Datum.toD)) ≤ 1
    have := dep_cols r
    have e : PyData.depthAll [.str c.1, .int c.2] = 0 := by simp [PyData.depthAll, PyData.depth]
    rw [e]; omega
theorem shp_cols {cs : List Col} (h : ∀ c ∈ cs, PyData.strOk c.1 = true) : SeqAt.shaped (.list (cs.map PySem.W.Datum.toD)) = true := by
  unfold SeqAt.shaped
  have e1 : PyData.canLay0 (.list (cs.map PySem.W.Datum.toD)) = true := can_cols cs h
  have e2 : PyData.depth (.list (cs.map PySem.W.Datum.toD)) ≤ 64 := by show PyData.depthAll _ + 1 ≤ 64; have := dep_cols cs; omega
  rw [e1, decide_eq_true e2]; rfl
theorem eqd_cols {a b : Addr} {k : Bool → Prop} (h : SqL K H a ys) (h2 : SqL K H b zs) (p : Cols K H ys cs) (p2 : Cols K H zs ds) (s1 : ∀ c ∈ cs, PyData.strOk c.1 = true) (s2 : ∀ c ∈ ds, PyData.strOk c.1 = true) (q : k (decide (cs = ds))) : EqD K H (.ref a) (.ref b) k :=
  ⟨_, _, .lst h (dp_cols p), .lst h2 (dp_cols p2), shp_cols s1, shp_cols s2, by
    have e : PyData.eqv (.list (cs.map PySem.W.Datum.toD)) (.list (ds.map PySem.W.Datum.toD)) = decide (cs = ds) := PySem.W.Datum.eqv cs ds
    rw [e]; exact q⟩
end
end S
-- deps: D0 D1
namespace S
open PySem PySem.Spec PyProof.Rows L2
/-- a loop that leaves all that stood -/
theorem for_stay {K : Frag} {p : Addr} {xs : List V} {g : TG} {tb : TS} {D : L2.Ends} {σ : L2.St} {H : Hp} (Pv : Nat → L2.St → Hp → Prop) (hx : SqA K H p xs) (h0 : Pv 0 σ H)
    (hs : ∀ i x σ H', xs[i]? = some x → Pv i σ H' → Same H H' → g x σ H' fun σ2 H2 => tb { D with nx := fun σ H'' => Pv (i + 1) σ H'' ∧ Same H H'', ct := fun σ H'' => Pv (i + 1) σ H'' ∧ Same H H'', bk := D.nx } σ2 H2) (hd : ∀ σ H', Pv xs.length σ H' → Same H H' → D.nx σ H') :
    Walk K H p (LoopR D g tb σ) := for_seq (fun i σ H' => Pv i σ H' ∧ Same H H') hx ⟨h0, Same.refl _⟩ (fun _ _ _ _ z => Same.stay z.2) (fun i x σ H' hi z => hs i x σ H' hi z.1 z.2) fun σ H' z => hd σ H' z.1 z.2
/-- a loop that leaves all that stood at an older heap H0, where the sequence stood -/
theorem for_seq0 {K : Frag} {p : Addr} {xs : List V} {g : TG} {tb : TS} {D : L2.Ends} {σ : L2.St} {H0 H : Hp} (Pv : Nat → L2.St → Hp → Prop) (hx : SqA K H0 p xs) (e0 : Same H0 H) (h0 : Pv 0 σ H) (hl : ∀ i σ H', Pv i σ H' → Same H0 H')
    (hs : ∀ i x σ H, xs[i]? = some x → Pv i σ H → g x σ H fun σ2 H2 => tb { D with nx := Pv (i + 1), ct := Pv (i + 1), bk := D.nx } σ2 H2) (hd : ∀ σ H, Pv xs.length σ H → D.nx σ H) :
    Walk K H p (LoopR D g tb σ) := by
  rcases hx with hx | hx
  · exact ⟨.inl ⟨⟨xs, e0.seq hx⟩, for_list Pv h0 (fun i σ H' hi q => (hl i σ H' q).seq hx) hs hd⟩⟩
  · exact ⟨.inr ⟨⟨xs, Same.tup e0 hx⟩, for_tup Pv h0 (fun i σ H' hi q => Same.tup (hl i σ H' q) hx) hs hd⟩⟩
end S
namespace S
open PySem PySem.Spec PyProof.Rows L2
def t_Schemadd_initdd_b1_2 (K : Frag) (E : XK) : TS :=
    tDrop (dML K mApp (dVar 2) (tCons (dTup K (tCons (dVar 4) (tCons (dVar 5) (tNil)))) (tNil)))
def t_Schemadd_initdd_b1_1 (K : Frag) (E : XK) : TS :=
    tSeq (tDrop (dML K mApp (dVar 3) (tCons (dVar 4) (tNil))))
    (stop (t_Schemadd_initdd_b1_2 K E))
def t_Schemadd_initdd_b1 (K : Frag) (E : XK) : TS :=
    tSeq (dIfS (dOr (dNot (dTest K (dCall (sp_is_name K) (EW E) (tCons (dVar 4) (tNil))))) (dOr (dCmpT (oIn K) (dVar 4) (dVar 3)) (dCmpT oLt (dVar 5) (tC (.int 1))))) (dGivS (ExF K "BadSchema" ["SliceError"]) (dRaise K "BadSchema" (WD E))) (tNext))
    (stop (t_Schemadd_initdd_b1_1 K E))
def t_Schemadd_initdd_3 (K : Frag) (E : XK) : TS :=
    dSto K "columns" (tCB (cTuple K) (tCons (dVar 2) (tNil))) (dVar 0)
def t_Schemadd_initdd_2 (K : Frag) (E : XK) : TS :=
    tSeq (dFor (iSeq K (dVar 1)) (gTup K 2 (gCons (gName 4) (gCons (gName 5) (gNil)))) (t_Schemadd_initdd_b1 K E))
    (stop (t_Schemadd_initdd_3 K E))
def t_Schemadd_initdd_1 (K : Frag) (E : XK) : TS :=
    tSeq (tAsg (dLst (tNil)) (gName 3))
    (stop (t_Schemadd_initdd_2 K E))
def t_Schemadd_initdd (K : Frag) (E : XK) : TS :=
    tSeq (tAsg (dLst (tNil)) (gName 2))
    (stop (t_Schemadd_initdd_1 K E))
end S
-- fn: Schema.__init__
-- law: k36
-- deps: is_name Cols Fstay D0 D1
namespace S
open PySem PySem.Spec PyProof.Rows L2
abbrev ScF (K : Frag) : Prop := DF K "Schema" [] ["columns"]
def goodC (cs : List Col) : Prop := (cs.map fun c => c.1).Nodup ∧ ∀ c ∈ cs, nameOk c.1 ∧ 1 ≤ c.2
theorem goodC.ok {cs : List Col} (h : goodC cs) : ∀ c ∈ cs, PyData.strOk c.1 = true := fun c hc => (h.2 c hc).1.ok
theorem Cols.xi {K : Frag} {H H' : Hp} {x C dy : Addr} {as : List (Str × V)} {ys : List V} {cs : List Col} (h : Cols K H ys cs) (e : SameX x H H') (hx : H x = some (.ins C dy as)) : Cols K H' ys cs := Paired.mapP h fun _ _ ⟨a, h1, h2⟩ => ⟨a, h1, by
  rcases h2 with (h | ⟨o, h⟩) | h
  · exact .inl (.inl (e _ _ h (ne_of h hx fun z => by cases z)))
  · exact .inl (.inr ⟨o, e _ _ h (ne_of h hx fun z => by cases z)⟩)
  · exact .inr h⟩
/-- a schema of the columns cs -/
def Sc (K : Frag) (H : Hp) (x : Addr) (cs : List Col) : Prop := ScF K ∧ goodC cs ∧ cs.length ≤ 1000 ∧ ∃ dx u ys, H x = some (.ins (He.ga K "Schema") dx [("columns", .ref u)]) ∧ SqT K H u ys ∧ Cols K H ys cs
theorem Sc.same {K : Frag} {H H' : Hp} {x : Addr} {cs : List Col} (h : Sc K H x cs) (e : Same H H') : Sc K H' x cs := by
  obtain ⟨a, b, l, dx, u, ys, h1, h2, h3⟩ := h
  exact ⟨a, b, l, dx, u, ys, e _ _ h1, Same.tup e h2, h3.same e⟩
theorem Sc.x {K : Frag} {H H' : Hp} {x st : Addr} {cs : List Col} {l : List V} (h : Sc K H x cs) (e : SameX st H H') (hst : H st = some (.lst l)) : Sc K H' x cs := by
  obtain ⟨a, b, ll, dx, u, ys, h1, h2, h3⟩ := h
  exact ⟨a, b, ll, dx, u, ys, e _ _ h1 (ne_of h1 hst fun z => by cases z), e.tup h2 hst, h3.x e hst⟩
theorem inV_strs (z : Str) : ∀ L : List Str, inV (.str z) (L.map V.str) = decide (z ∈ L)
  | [] => rfl
  | x :: L => by
    show (eqV (.str x) (.str z) || inV (.str z) (L.map V.str)) = _
    rw [inV_strs z L]
    show ((x == z) || _) = _
    by_cases h : x = z
    · subst h; simp
    · have h2 : ¬ z = x := fun e => h e.symm
      simp [h, h2]
theorem flat_strs : ∀ L : List Str, (L.map V.str).all flatV = true
  | [] => rfl
  | _ :: L => by show (true && (L.map V.str).all flatV) = true; rw [flat_strs L]; rfl
def sp_Schemadd_initdd (K : Frag) : Sp := fun vs H Q E => ∃ (H0 : Hp) (x dx q : Addr) (ys : List V) (cs : List Col), vs = [.ref x, .ref q] ∧ ScF K ∧ H0 x = none ∧ H0 dx = none ∧ Same H0 H ∧ H x = some (.ins (He.ga K "Schema") dx []) ∧ SqA K H0 q ys ∧ Cols K H0 ys cs ∧ cs.length ≤ 1000 ∧ (∀ c ∈ cs, c.1.cps.size ≤ 1000) ∧
  (goodC cs → ∀ H', Same H0 H' → Sc K H' x cs → Q .non H') ∧ (¬ goodC cs → XE K "BadSchema" → ∀ H', Same H0 H' → E (.ref (He.ga K "BadSchema")) none H')
def inv_Sc (K : Frag) (H0 : Hp) (x dx q k m : Addr) (cs : List Col) (i : Nat) (σ : L2.St) (H' : Hp) : Prop := ∃ (zs : List V) (a b : Option V), σ = [some (.ref x), some (.ref q), some (.ref k), some (.ref m), a, b] ∧ Same H0 H' ∧ H' x = some (.ins (He.ga K "Schema") dx []) ∧ H' k = some (.lst zs) ∧ Cols K H' zs (cs.take i) ∧ H' m = some (.lst (((cs.take i).map fun c => c.1).map V.str)) ∧ goodC (cs.take i)
theorem nodup_take {α : Type} {L : List α} {i : Nat} {x : α} (h : L.Nodup) (hx : L[i]? = some x) : x ∉ L.take i := fun hm => by
  obtain ⟨j, hj⟩ := List.mem_iff_getElem?.mp hm
  have hjl : j < i := by have := (List.getElem?_eq_some_iff.mp hj).1; rw [List.length_take] at this; omega
  rw [List.getElem?_take_of_lt hjl] at hj
  obtain ⟨l1, g1⟩ := List.getElem?_eq_some_iff.mp hj
  obtain ⟨l2, g2⟩ := List.getElem?_eq_some_iff.mp hx
  exact List.pairwise_iff_getElem.mp h j i l1 l2 hjl (g1.trans g2.symm)
theorem cols_snoc {K : Frag} {H : Hp} {y : V} {c : Col} : ∀ {ys : List V} {cs : List Col}, Cols K H ys cs → ColT K H c y → Cols K H (ys ++ [y]) (cs ++ [c])
  | _, _, .nil, h => .cons h .nil
  | _, _, .cons a t, h => .cons a (cols_snoc t h)
theorem cols_at {K : Frag} {H : Hp} : ∀ {ys : List V} {cs : List Col} {i : Nat} {y : V}, Cols K H ys cs → ys[i]? = some y → ∃ c, cs[i]? = some c ∧ ColT K H c y
  | _, _, i, _, .nil, h => by simp at h
  | _, _, 0, _, .cons h _, e => by
    rw [List.getElem?_cons_zero] at e
    cases e
    exact ⟨_, rfl, h⟩
  | _, _, i + 1, _, .cons _ t, e => by
    rw [List.getElem?_cons_succ] at e
    obtain ⟨x, hx, hp⟩ := cols_at t e
    exact ⟨x, by rw [List.getElem?_cons_succ]; exact hx, hp⟩
theorem pure_Schemadd_initdd {K : Frag} (vs : List V) (H : Hp) (Q : VK) (E : XK) (h : sp_Schemadd_initdd K vs H Q E) : t_Schemadd_initdd K E { nx := fun _ H' => Q .non H', rt := Q } (start ["self", "columns", "kept", "names", "name", "width"] vs) H := by
  obtain ⟨H0, x, dx, q, ys, cs, rfl, sf, nx, ndx, e0, hx, hq, hC, lc, lz, good, bad⟩ := h
  walk_at "gx"
  refine ⟨fun k nk => ?_⟩
  have e1 := same_new (o := .lst ([] : List V)) nk
  have xk : x ≠ k := ne_of_none hx nk
  have hk1 : upd H k (.lst ([] : List V)) k = some (.lst []) := upd_same
  have hx1 := e1 _ _ hx
  have nk0 : H0 k = none := by
    cases ez : H0 k with
    | none => rfl
    | some o => rw [e0 _ _ ez] at nk; cases nk
  have e01 := e0.trans e1
  generalize upd H k (.lst ([] : List V)) = H1 at *
  walk_at "gx"
  refine ⟨fun m nm => ?_⟩
  have e2 := same_new (o := .lst ([] : List V)) nm
  have xm : x ≠ m := ne_of_none hx1 nm
  have km : k ≠ m := ne_of_none hk1 nm
  have nm0 : H0 m = none := by
    cases ez : H0 m with
    | none => rfl
    | some o => rw [e01 _ _ ez] at nm; cases nm
  walk_at "gx"
  refine for_seq0 (H0 := H0) (inv_Sc K H0 x dx q k m cs) hq (e01.trans e2) ⟨[], none, none, rfl, e01.trans e2, e2 _ _ hx1, e2 _ _ hk1, .nil, upd_same, .nil, fun _ z => nomatch z⟩ (fun i σ H' z => let ⟨_, _, _, _, e, _⟩ := z; e) ?_ ?_
  · rintro i y σ H3 hi ⟨zs, a, b, rfl, e3, hx3, hk3, hC3, hm3, hg⟩
    obtain ⟨c, hc, ad, rfl, ht⟩ := cols_at (hC.same e3) hi
    have hcm := List.mem_of_getElem? hc
    have tk : cs.take (i + 1) = cs.take i ++ [c] := by rw [List.take_add_one, hc]; rfl
    have raise : ¬ goodC cs → ∀ D σ, dGivS (ExF K "BadSchema" ["SliceError"]) (dRaise K "BadSchema" (WD E)) D σ H3 := fun hb D σ xf => bad hb xf H3 e3
    refine ⟨ad, _, rfl, ht, rfl, _, _, rfl, _, _, rfl, rfl, ?_⟩
    walk_at "gx"
    refine ⟨c.1, rfl, lz c hcm, ?_⟩
    refine ifn (fun h => raise (fun z => h (z.2 c hcm).1) _ _) (fun h1 => ?_)
    walk_at "gx"
    refine Need.mk ⟨rfl, flat_strs _⟩ ?_
    rw [inV_strs]
    have hc' : (cs.map fun c => c.1)[i]? = some c.1 := by rw [List.getElem?_map, hc]; rfl
    have mt : (cs.take i).map (fun c => c.1) = (cs.map fun c => c.1).take i := List.map_take
    refine ifd (fun h2 => raise (fun z => ?_) _ _) (fun h2 => ?_)
    · rw [mt] at h2
      exact nodup_take z.1 hc' h2
    walk_at "gx"
    refine ifd (fun h3 => raise (fun z => ?_) _ _) (fun h3 => ?_)
    · have := (z.2 c hcm).2
      have h3 : c.2 < 1 := h3
      omega
    have h3 : ¬ c.2 < 1 := h3
    have h1 : nameOk c.1 := h1
    have hg2 : goodC (cs.take (i + 1)) := by
      refine ⟨?_, fun d hd => ?_⟩
      · rw [tk, List.map_append]
        refine List.pairwise_append.mpr ⟨hg.1, List.pairwise_singleton _ _, fun u hu v hv => ?_⟩
        rw [List.mem_singleton.mp hv]
        exact fun z => h2 (by rw [← show u = c.1 from z]; exact hu)
      · rw [tk] at hd
        rcases List.mem_append.mp hd with hd | hd
        · exact hg.2 d hd
        · rw [List.mem_singleton.mp hd]; exact ⟨h1, by omega⟩
    have lt : (cs.take i).length ≤ 1000 := by rw [List.length_take]; omega
    have lm : ((cs.take i).map fun c => c.1).length ≤ 1000 := by rw [List.length_map]; exact lt
    have lm2 : (((cs.take i).map fun c => c.1).map V.str).length < sizeLine := by rw [List.length_map, sizeLine_eq]; omega
    have lzs : zs.length < sizeLine := by rw [← Paired.length hC3, sizeLine_eq]; omega
    walk_at "gx"
    have ex : SameX m H3 (L2.upd H3 m (.lst (((cs.take i).map fun c => c.1).map V.str ++ [V.str c.1]))) := SameX.upd
    have hm4 : L2.upd H3 m (.lst (((cs.take i).map fun c => c.1).map V.str ++ [V.str c.1])) m = some (.lst (((cs.take i).map fun c => c.1).map V.str ++ [V.str c.1])) := upd_same
    have e4 := Same.mut e3 (o := .lst (((cs.take i).map fun c => c.1).map V.str ++ [V.str c.1])) nm0
    refine ⟨fun u H5 e5 hu => ?_⟩
    have hk5 := e5 _ _ (ex _ _ hk3 km)
    have hx5 := e5 _ _ (ex _ _ hx3 xm)
    have hm5 := e5 _ _ hm4
    have hC5 := (hC3.x ex hm3).same e5
    have ex6 : SameX k H5 (L2.upd H5 k (.lst (zs ++ [.ref u]))) := SameX.upd
    walk_at "gx"
    refine ⟨zs ++ [.ref u], _, _, rfl, Same.mut (e4.trans e5) nk0, ex6 _ _ hx5 xk, upd_same, ?_, ?_, hg2⟩
    · rw [tk]
      exact cols_snoc (hC5.x ex6 hk5) ⟨u, rfl, ex6.tup hu hk5⟩
    · rw [ex6 _ _ hm5 (Ne.symm km), tk, List.map_append, List.map_append]
      rfl
  · rintro σ H3 ⟨zs, a, b, rfl, e3, hx3, hk3, hC3, hm3, hg⟩
    rw [← hC.length, List.take_length] at hC3 hg
    walk_at "gx"
    refine ⟨fun u H4 e4 hu => ?_⟩
    have hx4 := e4 _ _ hx3
    walk_at "gx"
    refine Sto.df sf hx4 (by simp) ?_
    refine good hg _ (Same.mut (e3.trans e4) nx) ⟨sf, hg, lc, dx, u, zs, upd_same, ?_, ?_⟩
    · rcases hu with (h | ⟨o, h⟩) | h
      · exact .inl (.inl (by rw [upd_ne (ne_of h hx4 fun z => by cases z)]; exact h))
      · exact .inl (.inr ⟨o, by rw [upd_ne (ne_of h hx4 fun z => by cases z)]; exact h⟩)
      · exact .inr h
    · exact (hC3.same e4).xi SameX.upd hx4
/-- a schema is made -/
theorem mk_schema {K : Frag} {H : Hp} {q : Addr} {ys : List V} {cs : List Col} {R : Addr → Hp → Prop} {E : XK} (sf : ScF K) (hq : SqA K H q ys) (hC : Cols K H ys cs) (lc : cs.length ≤ 1000) (lz : ∀ c ∈ cs, c.1.cps.size ≤ 1000) (good : goodC cs → ∀ x H', Same H H' → H x = none → Sc K H' x cs → R x H')
    (bad : ¬ goodC cs → XE K "BadSchema" → ∀ H', Same H H' → E (.ref (He.ga K "BadSchema")) none H') :
    NewI K H "Schema" fun x H2 => sp_Schemadd_initdd K [.ref x, .ref q] H2 (fun v H3 => v = .non ∧ R x H3) E := by
  refine ⟨fun x dx h1 h2 hne => ?_⟩
  have e : Same H (upd (upd H dx (.own x)) x (.ins (He.ga K "Schema") dx [])) := fun b o h => by
    rw [upd_ne (ne_of_none h h1), upd_ne (ne_of_none h h2)]; exact h
  exact ⟨H, x, dx, q, ys, cs, rfl, sf, h1, h2, e, upd_same, hq, hC, lc, lz, fun ok H' e' hs => ⟨rfl, good ok x H' e' h1 hs⟩, bad⟩
end S
namespace S
open PySem PySem.Spec PyProof.Rows L2
def t__law_index_of_b1 (K : Frag) (E : XK) : TS :=
    dIfS (dCmpT (oEq K) (tOp (oIx K) (tOp (oIx K) (dVar 0) (dVar 2)) (tC (.int 0))) (dVar 1)) (tRet (dVar 2)) (tNext)
def t__law_index_of_1 (K : Frag) (E : XK) : TS :=
    tRet (tUn uNeg (tC (.int 1)))
def t__law_index_of (K : Frag) (E : XK) : TS :=
    tSeq (dFor (iRng (tCons (tCB (cLen K) (tCons (dVar 0) (tNil))) (tNil))) (gName 2) (t__law_index_of_b1 K E))
    (stop (t__law_index_of_1 K E))
end S
-- fn: _law_index_of
-- law: k37
-- deps: Schema_init D0 D1
namespace S
open PySem PySem.Spec PyProof.Rows L2
def sp__law_index_of (K : Frag) : Sp := fun vs H Q _ => ∃ (p : Addr) (ys : List V) (cs : List Col) (i : Nat) (c : Col), vs = [.ref p, .str c.1] ∧ H p = some (.lst ys) ∧ Cols K H ys cs ∧ cs.length ≤ 1000 ∧ (cs.map fun c => c.1).Nodup ∧ cs[i]? = some c ∧ Q (.int i) H
theorem pure__law_index_of {K : Frag} (vs : List V) (H : Hp) (Q : VK) (E : XK) (h : sp__law_index_of K vs H Q E) : t__law_index_of K E { nx := fun _ H' => Q .non H', rt := Q } (start ["_law_columns", "_law_name", "_law_k"] vs) H := by
  obtain ⟨p, ys, cs, i, c, rfl, hp, hC, lc, nd, hi, q⟩ := h
  have ly : ys.length = cs.length := (Paired.length hC).symm
  obtain ⟨hil, eg⟩ := List.getElem?_eq_some_iff.mp hi
  walk_at "gx"
  try refine Need.mk (by omega) ?_
  refine for_rng (fun j σ H1 => H1 = H ∧ (∃ k : Option V, σ = [some (.ref p), some (.str c.1), k]) ∧ j ≤ i) ⟨rfl, ⟨none, rfl⟩, Nat.zero_le _⟩ ?_ ?_
  · rintro j σ H1 hj ⟨rfl, ⟨k, rfl⟩, hji⟩
    have hjl : j < cs.length := by omega
    have hget : ys[j]? = some ys[j] := List.getElem?_eq_getElem (by omega)
    obtain ⟨d, hd, ad, ead, ht⟩ := cols_at hC hget
    rw [ead] at hget
    walk_at "gx"
    refine S.At.of (atI_nat hget) ?_
    refine Rd.st ht ?_
    refine S.At.of (atI_nat (j := 0) rfl) ?_
    refine ifd (fun h => ?_) (fun h => ?_)
    · have h : d.1 = c.1 := h
      have e : j = i := by
        rcases Nat.lt_or_ge j i with g | g
        · obtain ⟨_, ed⟩ := List.getElem?_eq_some_iff.mp hd
          have := List.pairwise_iff_getElem.mp nd j i (by rw [List.length_map]; omega) (by rw [List.length_map]; omega) g
          rw [List.getElem_map, List.getElem_map, ed, eg] at this
          exact absurd h this
        · omega
      subst e
      walk_at "gx"
      exact q
    · refine ⟨rfl, ⟨_, rfl⟩, ?_⟩
      rcases Nat.lt_or_ge j i with g | g
      · omega
      · have e : j = i := by omega
        subst e
        rw [hi] at hd
        injection hd with hd
        exact absurd (by rw [hd]) h
  · rintro σ H1 ⟨rfl, ⟨k, rfl⟩, hji⟩
    exfalso
    have : ((ys.length : Nat) : Int).toNat = ys.length := by omega
    rw [this] at hji
    omega
end S
-- deps: Schema_init D0 D1
/-! ## comprehensions over lists of pairs (a name, a number) -/
namespace S
open PySem PySem.Spec PyProof.Rows L2
theorem mget {α : Type} {g : α → V} {ns : List α} {i : Nat} {x : V} (h : (ns.map g)[i]? = some x) : ∃ y, ns[i]? = some y ∧ x = g y := by
  rw [List.getElem?_map] at h
  cases e : ns[i]? with
  | none => rw [e] at h; cases h
  | some y => rw [e] at h; exact ⟨y, rfl, (Option.some.inj h).symm⟩
theorem cols_app2 {K : Frag} {H : Hp} : ∀ {ys zs : List V} {cs ds : List Col}, Cols K H ys cs → Cols K H zs ds → Cols K H (ys ++ zs) (cs ++ ds)
  | _, _, _, _, .nil, h => h
  | _, _, _, _, .cons a t, h => .cons a (cols_app2 t h)
theorem tk_filter {α : Type} {cs : List α} {pr : α → Bool} {i : Nat} {c : α} (hc : cs[i]? = some c) : (cs.take (i + 1)).filter pr = (cs.take i).filter pr ++ (if pr c = true then [c] else []) := by
  rw [List.take_succ, hc, List.filter_append]
  congr 1
  show [c].filter pr = _
  by_cases e : pr c = true <;> simp [e]
theorem lc_cols {K : Frag} {p : Addr} {ys : List V} {cs : List Col} {g : TG} {tt : TT} {te : TE} {vs : List Nat} {σ : L2.St} {H1 : Hp} {Q : VK} (f : Col → Col) (pr : Col → Bool) (hx : SqA K H1 p ys) (hC : Cols K H1 ys cs) (lc : cs.length ≤ 100000)
    (hs : ∀ c ad H (A : V → Hp → Prop) (B : Hp → Prop), c ∈ cs → Same H1 H → SqT K H ad [.str c.1, .int c.2] → (∀ t H', Same H H' → pr c = true → SqT K H' t [.str (f c).1, .int (f c).2] → A (.ref t) H') → (pr c = false → B H) →
      g (.ref ad) (wipe σ vs) H fun σ2 H2 => wipe σ2 vs = wipe σ vs ∧ tt σ2 H2 fun b H3 => if b = true then te σ2 H3 A else B H3)
    (hd : ∀ D zs H', H1 D = none → H' D = some (.lst zs) → Cols K H' zs ((cs.filter pr).map f) → Same H1 H' → Q (.ref D) H') : Walk K H1 p (Wr (LcGo g tt te vs σ Q)) := by
  have ly : ys.length = cs.length := (Paired.length hC).symm
  refine lc_seq hx fun D hD => ⟨fun i H' => ∃ zs, H' D = some (.lst zs) ∧ Cols K H' zs (((cs.take i).filter pr).map f) ∧ Same H1 H', ⟨[], upd_same, by rw [List.take_zero]; exact .nil, same_new hD⟩, fun i H' _ ⟨_, _, _, e⟩ ys => ⟨e.seq, Same.tup e⟩, ?_, fun H2 ⟨zs, h1, h2, e2⟩ => ?_⟩
  · rintro i y H hi ⟨zs, h1, h2, e1⟩
    obtain ⟨c, hc, ad, rfl, ht⟩ := cols_at (hC.same e1) hi
    refine hs c ad H _ _ (List.mem_of_getElem? hc) e1 ht (fun t H3 e3 hp ht3 => ⟨zs, e3 _ _ h1, ?_, zs ++ [.ref t], upd_same, ?_, ?_⟩) fun hp => ⟨zs, h1, ?_, e1⟩
    · have l1 := Paired.length h2
      have l2 := List.length_filter_le pr (cs.take i)
      rw [List.length_take] at l2
      rw [List.length_map] at l1
      rw [sizeLine_eq]
      omega
    · rw [tk_filter hc, if_pos hp, List.map_append]
      have ex : SameX D H3 (L2.upd H3 D (.lst (zs ++ [.ref t]))) := SameX.upd
      exact cols_snoc ((h2.same e3).x ex (e3 _ _ h1)) ⟨t, rfl, ex.tup ht3 (e3 _ _ h1)⟩
    · exact Same.mut (e1.trans e3) hD
    · rw [tk_filter hc, if_neg (by rw [hp]; exact Bool.false_ne_true), List.append_nil]
      exact h2
  · rw [ly, List.take_length] at h2
    exact hd D zs H2 hD h1 h2 e2
theorem lc_colsI {K : Frag} {p : Addr} {ys : List V} {cs : List Col} {g : TG} {tt : TT} {te : TE} {vs : List Nat} {σ : L2.St} {H1 : Hp} {Q : VK} (f : Col → V) (pr : Col → Bool) (hx : SqA K H1 p ys) (hC : Cols K H1 ys cs) (lc : cs.length ≤ 100000)
    (hs : ∀ c ad H (A : V → Hp → Prop) (B : Hp → Prop), c ∈ cs → Same H1 H → SqT K H ad [.str c.1, .int c.2] → (pr c = true → A (f c) H) → (pr c = false → B H) →
      g (.ref ad) (wipe σ vs) H fun σ2 H2 => wipe σ2 vs = wipe σ vs ∧ tt σ2 H2 fun b H3 => if b = true then te σ2 H3 A else B H3)
    (hd : ∀ D H', H1 D = none → H' D = some (.lst ((cs.filter pr).map f)) → Same H1 H' → Q (.ref D) H') : Walk K H1 p (Wr (LcGo g tt te vs σ Q)) := by
  have ly : ys.length = cs.length := (Paired.length hC).symm
  refine lc_seq hx fun D hD => ⟨fun i H' => H' D = some (.lst (((cs.take i).filter pr).map f)) ∧ Same H1 H', ⟨by rw [List.take_zero]; exact upd_same, same_new hD⟩, fun i H' _ ⟨_, e⟩ ys => ⟨e.seq, Same.tup e⟩, ?_, fun H2 ⟨h1, e2⟩ => ?_⟩
  · rintro i y H hi ⟨h1, e1⟩
    obtain ⟨c, hc, ad, rfl, ht⟩ := cols_at (hC.same e1) hi
    refine hs c ad H _ _ (List.mem_of_getElem? hc) e1 ht (fun hp => ⟨_, h1, ?_, ?_, ?_⟩) fun hp => ⟨?_, e1⟩
    · have l2 := List.length_filter_le pr (cs.take i)
      rw [List.length_take] at l2
      rw [List.length_map, sizeLine_eq]
      omega
    · rw [tk_filter hc, if_pos hp, List.map_append, upd_same]; rfl
    · exact Same.mut e1 hD
    · rw [tk_filter hc, if_neg (by rw [hp]; exact Bool.false_ne_true), List.append_nil]
      exact h1
  · rw [ly, List.take_length] at h1
    exact hd D H2 hD h1 e2
end S
-- deps: D0 D1
/-! ## lists of numbers made, joined, comprehended -/
namespace S
open PySem PySem.Spec PyProof.Rows L2
section
variable {K : Frag} {H : Hp} {Q : VK}
theorem new_ints (ns : List Int) (q : ∀ p H', Same H H' → H p = none → H' p = some (.lst (ns.map V.int)) → Q (.ref p) H') : NewL H (ns.map V.int) Q := ⟨fun p np => q p _ (same_new np) np upd_same⟩
theorem cat_ints {a b : Addr} {xs ys : List Int} (h1 : H a = some (.lst (xs.map V.int))) (h2 : H b = some (.lst (ys.map V.int))) (hz : xs.length + ys.length ≤ 100000) (q : ∀ p H', Same H H' → H p = none → H' p = some (.lst ((xs ++ ys).map V.int)) → Q (.ref p) H') : Cat K H a b Q :=
  Cat.l h1 h2 (by rw [List.length_map, List.length_map, sizeLine_eq]; omega) fun p np => q p _ (same_new np) np (by rw [upd_same, List.map_append])
theorem lc_ints {p : Addr} {g : TG} {tt : TT} {te : TE} {vs : List Nat} {σ : L2.St} (as : List Int) (f : Int → Int) (pr : Int → Bool) (hx : SqA K H p (as.map V.int)) (hz : as.length ≤ 100000)
    (hs : ∀ i H' (A : V → Hp → Prop) (B : Hp → Prop), i ∈ as → Same H H' → (∀ H2, Same H' H2 → pr i = true → A (.int (f i)) H2) → (∀ H2, Same H' H2 → pr i = false → B H2) →
      g (.int i) (wipe σ vs) H' fun σ2 H2 => wipe σ2 vs = wipe σ vs ∧ tt σ2 H2 fun b H3 => if b = true then te σ2 H3 A else B H3)
    (hd : ∀ D H', H D = none → H' D = some (.lst (((as.filter pr).map f).map V.int)) → Same H H' → Q (.ref D) H') : Walk K H p (Wr (LcGo g tt te vs σ Q)) := by
  refine lc_map (fun v => match v with | .int i => .int (f i) | v => v) (fun v => match v with | .int i => pr i | _ => false) hx (by rw [sizeLine_eq, List.length_map]; omega) ?_ fun D H' nD hD e => ?_
  · intro v H1 A B hm e hA hB
    obtain ⟨i, hi, rfl⟩ := List.mem_map.mp hm
    exact hs i H1 A B hi e hA hB
  · rw [map_filter_ints _ _ pr f (fun _ => rfl) (fun _ => rfl)] at hD
    exact hd D H' nD hD e
end
end S
namespace S
open PySem PySem.Spec PyProof.Rows L2
def t_Schema_reading_order_b1 (K : Frag) (E : XK) : TS :=
    tDrop (dML K (mExtA K) (dVar 3) (tCons (dLc (iSeq K (dAt K "columns" (dVar 0))) (gTup K 2 (gCons (gName 7) (gCons (gName 6) (gNil)))) (dCmpT oLt (dVar 4) (dVar 6)) (dTup K (tCons (dVar 7) (tCons (dVar 4) (tNil)))) [7, 6]) (tNil)))
def t_Schema_reading_order_5 (K : Frag) (E : XK) : TS :=
    tRet (dVar 3)
def t_Schema_reading_order_4 (K : Frag) (E : XK) : TS :=
    tSeq (dFor (iSeq K (dVar 2)) (gName 4) (t_Schema_reading_order_b1 K E))
    (stop (t_Schema_reading_order_5 K E))
def t_Schema_reading_order_3 (K : Frag) (E : XK) : TS :=
    tSeq (tAsg (dLc (iSeq K (dAt K "columns" (dVar 0))) (gTup K 2 (gCons (gName 7) (gCons (gName 5) (gNil)))) (tYes) (dTup K (tCons (dVar 7) (tCons (tUn uNeg (tC (.int 1))) (tNil)))) [7, 5]) (gName 3))
    (stop (t_Schema_reading_order_4 K E))
def t_Schema_reading_order_2 (K : Frag) (E : XK) : TS :=
    tSeq (dIfS (dCmpT (oEq K) (dVar 1) (tC (.str "high"))) (tDrop (dML K mRev (dVar 2) tNil)) (tNext))
    (stop (t_Schema_reading_order_3 K E))
def t_Schema_reading_order_1 (K : Frag) (E : XK) : TS :=
    tSeq (tAsg (dLstR1 (tCKw (cMaxD K) (tCons (dLc (iSeq K (dAt K "columns" (dVar 0))) (gTup K 2 (gCons (gName 5) (gCons (gName 6) (gNil)))) (tYes) (dVar 6) [5, 6]) (tNil)) (tCons (tC (.int 0)) (tNil)))) (gName 2))
    (stop (t_Schema_reading_order_2 K E))
def t_Schema_reading_order (K : Frag) (E : XK) : TS :=
    tSeq (dIfS (dCmpT (oNin K) (dVar 1) (dTup K (tCons (tC (.str "high")) (tCons (tC (.str "low")) (tNil))))) (dGivS (ExF K "BadOrder" ["SliceError"]) (dRaise K "BadOrder" (WD E))) (tNext))
    (stop (t_Schema_reading_order_1 K E))
end S
-- fn: Schema.reading_order
-- law: k37
-- extA: yes
-- deps: Lcc Li D0 D1
namespace S
open PySem PySem.Spec PyProof.Rows L2
def maxW : List Col → Nat
  | [] => 0
  | c :: cs => max c.2.toNat (maxW cs)
theorem maxW_le : ∀ (cs : List Col), ∀ c ∈ cs, c.2 ≤ maxW cs
  | c :: cs, d, h => by
    have e : maxW (c :: cs) = max c.2.toNat (maxW cs) := rfl
    rw [e]
    rcases List.mem_cons.mp h with rfl | h
    · have : d.2.toNat ≤ max d.2.toNat (maxW cs) := Nat.le_max_left _ _
      omega
    · have h1 := maxW_le cs d h
      have : maxW cs ≤ max c.2.toNat (maxW cs) := Nat.le_max_right _ _
      omega
theorem maxW_top : ∀ (cs : List Col) (m : Int), 0 ≤ m → (∀ c ∈ cs, c.2 ≤ m) → maxW cs ≤ m
  | [], m, h0, _ => h0
  | c :: cs, m, h0, h => by
    have e : maxW (c :: cs) = max c.2.toNat (maxW cs) := rfl
    have h1 := maxW_top cs m h0 fun d hd => h d (List.mem_cons_of_mem _ hd)
    have h2 := h c (List.mem_cons_self ..)
    rw [e]
    rcases Nat.le_total c.2.toNat (maxW cs) with g | g
    · rw [Nat.max_eq_right g]; exact h1
    · rw [Nat.max_eq_left g]; omega
/-- the places, from 0 up or from the highest down -/
def plc (cs : List Col) (dn : Bool) : List Int := let l := (List.range (maxW cs)).map fun j : Nat => (j : Int); if dn then l.reverse else l
def lvl (cs : List Col) (p : Int) : List Col := (cs.filter fun c => decide (p < c.2)).map fun c => (c.1, p)
def ordOf (cs : List Col) (P : List Int) : List Col := (cs.map fun c => (c.1, -1)) ++ P.flatMap (lvl cs)
def sp_Schema_reading_order (K : Frag) : Sp := fun vs H Q E => ∃ (x : Addr) (cs : List Col) (w : Str), vs = [.ref x, .str w] ∧ Sc K H x cs ∧ (∀ c ∈ cs, c.2 ≤ 1000) ∧ cs.length ≤ 100 ∧
  (∀ dn : Bool, w = (if dn then "high" else "low") → ∀ (d : Addr) (ys : List V) (H' : Hp), Same H H' → H d = none → H' d = some (.lst ys) → Cols K H' ys (ordOf cs (plc cs dn)) → Q (.ref d) H') ∧
  (w ≠ "high" → w ≠ "low" → XE K "BadOrder" → ∀ H', Same H H' → E (.ref (He.ga K "BadOrder")) none H')
theorem lvl_len (cs : List Col) (p : Int) : (lvl cs p).length ≤ cs.length := by
  unfold lvl
  rw [List.length_map]
  exact List.length_filter_le _ _
theorem ord_len (cs : List Col) : ∀ P : List Int, (P.flatMap (lvl cs)).length ≤ P.length * cs.length
  | [] => Nat.zero_le _
  | p :: P => by
    rw [List.flatMap_cons, List.length_append, List.length_cons, Nat.succ_mul]
    have := lvl_len cs p
    have := ord_len cs P
    omega
section
variable {K : Frag} {E : XK} {Q : VK} {H : Hp} {x : Addr} {w : Str} {cs : List Col}
theorem ro_3 {pl : Addr} {P : List Int} {k3 k4 k5 k6 k7 : Option V} (hs : Sc K H x cs) (lc : cs.length ≤ 100) (hp : H pl = some (.lst (P.map V.int))) (lP : P.length ≤ 1000) (hP : ∀ p ∈ P, 0 ≤ p) (q : ∀ (d : Addr) (ys : List V) (H' : Hp), Same H H' → H d = none → H' d = some (.lst ys) → Cols K H' ys (ordOf cs P) → Q (.ref d) H') :
    t_Schema_reading_order_3 K E { nx := fun _ H' => Q .non H', rt := Q } [some (.ref x), some (.str w), some (.ref pl), k3, k4, k5, k6, k7] H := by
  obtain ⟨sf, hg, _, dx, u, ys, hx, hu, hC⟩ := id hs
  walk_at "gx"
  refine Atr.df sf hx rfl ?_
  refine lc_cols (fun c => (c.1, -1)) (fun _ => true) (.inr hu) hC (by omega) ?_ fun d zs H1 nd hd hZ e1 => ?_
  · intro c ad H3 A B hc e ht hA hB
    refine ⟨ad, _, rfl, ht, rfl, _, _, rfl, _, _, rfl, rfl, ?_⟩
    refine ⟨rfl, ?_⟩
    refine Need.mk (by rw [sizeLine_eq]; show 2 ≤ 16777216; decide) ?_
    exact ⟨fun t H4 e4 ht4 => hA t H4 e4 rfl ht4⟩
  · rw [List.filter_eq_self.mpr fun _ _ => rfl] at hZ
    have hp1 := e1 _ _ hp
    walk_at "gx"
    refine for_seq0 (K := K) (H0 := H) (fun i σ H' => (∃ a b c e : Option V, σ = [some (.ref x), some (.str w), some (.ref pl), some (.ref d), a, b, c, e]) ∧ Same H H' ∧ ∃ zs, H' d = some (.lst zs) ∧ Cols K H' zs ((cs.map fun c => (c.1, -1)) ++ (P.take i).flatMap (lvl cs))) (.inl (SqL.of hp)) e1 ⟨⟨_, _, _, _, rfl⟩, e1, zs, hd, by rw [List.take_zero]; show Cols K H1 zs (_ ++ []); rw [List.append_nil]; exact hZ⟩ (fun i σ H' z => z.2.1) ?_ ?_
    · rintro i y σ H3 hi ⟨⟨a, b, c, e, rfl⟩, e3, ws, hd3, hW⟩
      obtain ⟨p, hpi, rfl⟩ := mget hi
      have tk : P.take (i + 1) = P.take i ++ [p] := by rw [List.take_add_one, hpi]; rfl
      have hpm := hP p (List.mem_of_getElem? hpi)
      walk_at "gx"
      refine Atr.df sf (e3 _ _ hx) rfl ?_
      refine lc_cols (fun c => (c.1, p)) (fun c => decide (p < c.2)) (.inr (Same.tup e3 hu)) (hC.same e3) (by omega) ?_ fun d2 vs H4 nd2 hd2 hV e4 => ?_
      · intro c ad H5 A B hc e ht hA hB
        refine ⟨ad, _, rfl, ht, rfl, _, _, rfl, _, _, rfl, rfl, ?_⟩
        refine ⟨rfl, ?_⟩
        refine ifc (fun h => ?_) (fun h => hB (decide_eq_false h))
        refine Need.mk (by rw [sizeLine_eq]; show 2 ≤ 16777216; decide) ?_
        exact ⟨fun t H6 e6 ht6 => hA t H6 e6 (decide_eq_true h) ht6⟩
      · have hd4 := e4 _ _ hd3
        have l1 := Paired.length hW
        have l2 := Paired.length hV
        have l3 := ord_len cs (P.take i)
        have l4 := lvl_len cs p
        have l5 : (P.take i).length ≤ 1000 := by rw [List.length_take]; omega
        rw [List.length_append, List.length_map] at l1
        have l6 : (P.take i).length * cs.length ≤ 1000 * 100 := Nat.mul_le_mul l5 lc
        have l7 : (lvl cs p).length = vs.length := l2
        have lsz : ws.length + vs.length ≤ sizeLine := by rw [sizeLine_eq]; omega
        walk_at "gx"
        refine ExtA.l hd2 lsz ?_
        have ex : SameX d H4 (L2.upd H4 d (.lst (ws ++ vs))) := SameX.upd
        refine ⟨⟨_, _, _, _, rfl⟩, Same.mut (e3.trans e4) nd, ws ++ vs, upd_same, ?_⟩
        rw [tk, List.flatMap_append, List.flatMap_singleton, ← List.append_assoc]
        exact cols_app2 ((hW.same e4).x ex hd4) (hV.x ex hd4)
    · rintro σ H3 ⟨⟨a, b, c, e, rfl⟩, e3, ws, hd3, hW⟩
      rw [List.length_map, List.take_length] at hW
      walk_at "gx"
      exact q d ws H3 e3 nd hd3 hW
end
theorem rgV_ints (n : Nat) : rgV 0 (n : Int) = ((List.range n).map fun j : Nat => (j : Int)).map V.int := by
  unfold rgV
  have e : ((n : Int) - 0).toNat = n := by omega
  rw [e, List.map_map]
  refine List.map_congr_left fun j _ => ?_
  show V.int (0 + (j : Int)) = V.int (j : Int)
  rw [Int.zero_add]
theorem plc_len (cs : List Col) (dn : Bool) : (plc cs dn).length = maxW cs := by
  unfold plc
  cases dn
  · show ((List.range (maxW cs)).map _).length = _
    rw [List.length_map, List.length_range]
  · show (((List.range (maxW cs)).map _).reverse).length = _
    rw [List.length_reverse, List.length_map, List.length_range]
theorem plc_pos (cs : List Col) (dn : Bool) : ∀ p ∈ plc cs dn, 0 ≤ p := fun p hp => by
  unfold plc at hp
  have h : p ∈ (List.range (maxW cs)).map fun j : Nat => (j : Int) := by
    cases dn
    · exact hp
    · exact List.mem_reverse.mp hp
  obtain ⟨j, _, rfl⟩ := List.mem_map.mp h
  omega
theorem pure_Schema_reading_order {K : Frag} (vs : List V) (H : Hp) (Q : VK) (E : XK) (h : sp_Schema_reading_order K vs H Q E) : t_Schema_reading_order K E { nx := fun _ H' => Q .non H', rt := Q } (start ["self", "first", "places", "order", "place", "_", "width", "name"] vs) H := by
  obtain ⟨x, cs, w, rfl, hs, hw, lc, good, bad⟩ := h
  obtain ⟨sf, hg, _, dx, u, ys, hx, hu, hC⟩ := id hs
  have hwpos : ∀ c ∈ cs, 1 ≤ c.2 := fun c hc => (hg.2 c hc).2
  have mw : maxW cs ≤ 1000 := by have := maxW_top cs 1000 (by decide) hw; omega
  walk_at "gx"
  refine ⟨fun t H1 e1 ht => ?_⟩
  refine Rd.st ht ?_
  refine Need.mk ⟨rfl, rfl⟩ ?_
  rw [show ([V.str "high", V.str "low"]) = (["high", "low"] : List Str).map V.str from rfl, inV_strs]
  refine ifn (fun h => ?_) (fun h => ?_)
  · refine fun xf => bad (fun z => h (by rw [z]; simp)) (fun z => h (by rw [z]; simp)) xf H1 e1
  · have hs1 := hs.same e1
    have hx1 := e1 _ _ hx
    have hu1 := Same.tup e1 hu
    have hC1 := hC.same e1
    have hdn : ∃ dn : Bool, w = (if dn then "high" else "low") := by
      rcases List.mem_cons.mp h with rfl | h
      · exact ⟨true, rfl⟩
      · rcases List.mem_cons.mp h with rfl | h
        · exact ⟨false, rfl⟩
        · exact nomatch h
    obtain ⟨dn, ew⟩ := hdn
    walk_at "gx"
    refine Atr.df sf hx1 rfl ?_
    refine lc_colsI (fun c => .int c.2) (fun _ => true) (.inr hu1) hC1 (by omega) ?_ fun d H2 nd hd e2 => ?_
    · intro c ad H3 A B hc e ht hA hB
      refine ⟨ad, _, rfl, ht, rfl, _, _, rfl, _, _, rfl, rfl, ?_⟩
      exact ⟨rfl, hA rfl⟩
    rw [List.filter_eq_self.mpr fun _ _ => rfl] at hd
    have hd' : H2 d = some (.lst ((cs.map fun c => c.2).map V.int)) := by rw [hd, List.map_map]; rfl
    have next : ∀ m : Int, m = maxW cs → LRg 0 m H2 fun x_1 H1 => gName 2 x_1 [some (.ref x), some (.str w), none, none, none, none, none, none] H1 (stop (t_Schema_reading_order_2 K E) { nx := fun _ H' => Q .non H', rt := Q }) := by
      rintro m rfl
      refine ⟨⟨by decide, by decide, by omega, by omega, by omega⟩, fun pl npl => ?_⟩
      have e3 := same_new (o := .lst (rgV 0 (maxW cs : Int))) npl
      have e03 := (e1.trans e2).trans e3
      have npl0 : H pl = none := by
        cases ez : H pl with
        | none => rfl
        | some o => rw [e2 _ _ (e1 _ _ ez)] at npl; cases npl
      have hp3 : upd H2 pl (.lst (rgV 0 (maxW cs : Int))) pl = some (.lst (((List.range (maxW cs)).map fun j : Nat => (j : Int)).map V.int)) := by rw [upd_same, rgV_ints]
      have fin : ∀ (P : List Int) (H4 : Hp), Same H H4 → P = plc cs dn → H4 pl = some (.lst (P.map V.int)) → t_Schema_reading_order_3 K E { nx := fun _ H' => Q .non H', rt := Q } [some (.ref x), some (.str w), some (.ref pl), none, none, none, none, none] H4 := by
        rintro P H4 e4 rfl hp4
        refine ro_3 (hs.same e4) lc hp4 (by rw [plc_len]; exact mw) (plc_pos cs dn) fun d2 zs H5 e5 nd2 hd2 hZ => ?_
        refine good dn ew d2 zs H5 (e4.trans e5) ?_ hd2 hZ
        cases ez : H d2 with
        | none => rfl
        | some o => rw [e4 _ _ ez] at nd2; cases nd2
      generalize upd H2 pl (.lst (rgV 0 (maxW cs : Int))) = H3 at *
      have hh : ("low" : Str) ≠ "high" := by decide +kernel
      refine ⟨?_⟩
      show t_Schema_reading_order_2 K E { nx := fun _ H' => Q .non H', rt := Q } [some (.ref x), some (.str w), some (.ref pl), none, none, none, none, none] H3
      walk_at "gx"
      refine ifd (fun h1 => ?_) (fun h1 => ?_)
      · have h1 : w = "high" := h1
        have edn : dn = true := by
          cases dn with
          | true => rfl
          | false => exact absurd (ew.symm.trans h1) hh
        subst edn
        walk_at "go"
        refine ⟨fin ((List.range (maxW cs)).map fun j : Nat => (j : Int)).reverse _ (Same.mut e03 npl0) rfl (by rw [upd_same, List.map_reverse])⟩
      · have h1 : ¬ w = "high" := h1
        have edn : dn = false := by
          cases dn with
          | true => exact absurd ew h1
          | false => rfl
        subst edn
        exact ⟨fin ((List.range (maxW cs)).map fun j : Nat => (j : Int)) _ e03 rfl hp3⟩
    refine ⟨⟨_, SqL.of hd', fun e => ?_, fun m hm hmax => ?_⟩⟩
    · have en : cs = [] := List.map_eq_nil_iff.mp e
      exact next 0 (by rw [en]; rfl)
    · obtain ⟨c, hc, rfl⟩ := List.mem_map.mp hm
      refine next c.2 ?_
      have h1 := maxW_le cs c hc
      have h2 := maxW_top cs c.2 (by have := hwpos c hc; omega) fun d hd => hmax d.2 (List.mem_map.mpr ⟨d, hd, rfl⟩)
      omega
end S
-- deps: Schema_reading_order D0 D1
/-! ## the reading order ascends, and is complete -/
namespace S
open PySem PySem.Spec PyProof.Rows L2
theorem lt3 {a b c d e f : Int} (h : a < d ∨ (a = d ∧ (b < e ∨ (b = e ∧ c < f)))) : ltL [a, b, c] [d, e, f] = true := by
  have cons : ∀ (x y : Int) (xs ys : List Int), ltL (x :: xs) (y :: ys) = if x = y then ltL xs ys else decide (x < y) := fun _ _ _ _ => rfl
  rw [cons, cons, cons]
  rcases h with h | ⟨rfl, h | ⟨rfl, h⟩⟩
  · rw [if_neg (by omega)]; exact decide_eq_true h
  · rw [if_pos rfl, if_neg (by omega)]; exact decide_eq_true h
  · rw [if_pos rfl, if_pos rfl, if_neg (by omega)]; exact decide_eq_true h
def ixC (cs : List Col) (z : Str) : Nat := cs.findIdx fun c => decide (c.1 = z)
theorem ixC_at {cs : List Col} (nd : (cs.map fun c => c.1).Nodup) {i : Nat} {c : Col} (h : cs[i]? = some c) : ixC cs c.1 = i := by
  obtain ⟨hi, e⟩ := List.getElem?_eq_some_iff.mp h
  refine (List.findIdx_eq hi).mpr ⟨decide_eq_true (by rw [e]), fun j hj => decide_eq_false fun z => ?_⟩
  have h2 := List.pairwise_iff_getElem.mp nd j i (by rw [List.length_map]; omega) (by rw [List.length_map]; exact hi) hj
  rw [List.getElem_map, List.getElem_map, e] at h2
  exact h2 z
def rkC (cs : List Col) (dn : Bool) (e : Col) : List Int := if 0 ≤ e.2 then [1, if dn then -e.2 else e.2, ((ixC cs e.1 : Nat) : Int)] else [0, 0, ((ixC cs e.1 : Nat) : Int)]
theorem cs_asc {cs : List Col} (nd : (cs.map fun c => c.1).Nodup) : cs.Pairwise fun a b => ixC cs a.1 < ixC cs b.1 := by
  refine List.pairwise_iff_getElem.mpr fun i j hi hj hij => ?_
  rw [ixC_at nd (List.getElem?_eq_getElem hi), ixC_at nd (List.getElem?_eq_getElem hj)]
  exact hij
theorem plc_asc (cs : List Col) (dn : Bool) : (plc cs dn).Pairwise fun p r => if dn then r < p else p < r := by
  have h : ((List.range (maxW cs)).map fun j : Nat => (j : Int)).Pairwise (· < ·) := List.pairwise_map.mpr ((List.pairwise_lt_range (n := maxW cs)).imp fun h => by omega)
  unfold plc
  cases dn
  · exact h
  · exact List.pairwise_reverse.mpr h
theorem ord_asc {cs : List Col} (nd : (cs.map fun c => c.1).Nodup) (dn : Bool) : (ordOf cs (plc cs dn)).Pairwise fun a b => ltL (rkC cs dn a) (rkC cs dn b) = true := by
  have asc := cs_asc nd
  have rk0 : ∀ z : Str, rkC cs dn (z, -1) = [0, 0, ((ixC cs z : Nat) : Int)] := fun z => if_neg (by show ¬ (0 : Int) ≤ -1; decide)
  have rk1 : ∀ (z : Str) (p : Int), 0 ≤ p → rkC cs dn (z, p) = [1, if dn then -p else p, ((ixC cs z : Nat) : Int)] := fun z p h => if_pos h
  have pos := plc_pos cs dn
  refine List.pairwise_append.mpr ⟨?_, List.pairwise_flatMap.mpr ⟨fun p hp => ?_, ?_⟩, fun a ha b hb => ?_⟩
  · refine List.pairwise_map.mpr (asc.imp fun {a b} h => ?_)
    rw [rk0, rk0]
    exact lt3 (.inr ⟨rfl, .inr ⟨rfl, by omega⟩⟩)
  · refine List.pairwise_map.mpr ((asc.filter _).imp fun {a b} h => ?_)
    rw [rk1 _ _ (pos p hp), rk1 _ _ (pos p hp)]
    exact lt3 (.inr ⟨rfl, .inr ⟨rfl, by omega⟩⟩)
  · refine (plc_asc cs dn).imp_of_mem fun {p r} hp hr h a ha b hb => ?_
    obtain ⟨c, _, rfl⟩ := List.mem_map.mp ha
    obtain ⟨d, _, rfl⟩ := List.mem_map.mp hb
    rw [rk1 _ _ (pos p hp), rk1 _ _ (pos r hr)]
    refine lt3 (.inr ⟨rfl, .inl ?_⟩)
    cases dn
    · exact h
    · have h : r < p := h
      show -p < -r
      omega
  · obtain ⟨c, _, rfl⟩ := List.mem_map.mp ha
    obtain ⟨p, hp, hb⟩ := List.mem_flatMap.mp hb
    obtain ⟨d, _, rfl⟩ := List.mem_map.mp hb
    rw [rk0, rk1 _ _ (pos p hp)]
    exact lt3 (.inl (by decide))
theorem cnt_lt (w : Int) : ∀ M : Nat, ((List.range M).filter fun j : Nat => decide ((j : Int) < w)).length = min w.toNat M
  | 0 => by simp
  | M + 1 => by
    rw [List.range_succ, List.filter_append, List.length_append, cnt_lt w M]
    by_cases h : (M : Int) < w
    · have e : ([M].filter fun j : Nat => decide ((j : Int) < w)) = [M] := by simp [h]
      rw [e]
      show min w.toNat M + 1 = _
      omega
    · have e : ([M].filter fun j : Nat => decide ((j : Int) < w)) = [] := by simp; omega
      rw [e]
      show min w.toNat M + 0 = _
      omega
theorem sum_swap (c : Col) (cs : List Col) : ∀ L : List Nat, (L.map fun j : Nat => (lvl (c :: cs) (j : Int)).length).sum = (L.filter fun j : Nat => decide ((j : Int) < c.2)).length + (L.map fun j : Nat => (lvl cs (j : Int)).length).sum
  | [] => rfl
  | j :: L => by
    have ih := sum_swap c cs L
    rw [List.map_cons, List.sum_cons, List.map_cons, List.sum_cons, ih]
    have e : (lvl (c :: cs) (j : Int)).length = (if (j : Int) < c.2 then 1 else 0) + (lvl cs (j : Int)).length := by
      unfold lvl
      rw [List.length_map, List.length_map]
      by_cases h : (j : Int) < c.2
      · rw [List.filter_cons, if_pos (decide_eq_true h), if_pos h, List.length_cons]; omega
      · rw [List.filter_cons, if_neg (by rw [decide_eq_false h]; exact Bool.false_ne_true), if_neg h]; omega
    rw [e]
    by_cases h : (j : Int) < c.2
    · rw [if_pos h, List.filter_cons, if_pos (decide_eq_true h), List.length_cons]; omega
    · rw [if_neg h, List.filter_cons, if_neg (by rw [decide_eq_false h]; exact Bool.false_ne_true)]; omega
theorem sum_lvl (M : Nat) : ∀ cs : List Col, (∀ c ∈ cs, 0 ≤ c.2 ∧ c.2 ≤ M) → (((List.range M).map fun j : Nat => (lvl cs (j : Int)).length).sum : Int) = (cs.map fun c => c.2).sum
  | [], _ => by
    have : ∀ L : List Nat, (L.map fun j : Nat => (lvl [] (j : Int)).length).sum = 0 := fun L => by
      induction L with
      | nil => rfl
      | cons j L ih => rw [List.map_cons, List.sum_cons, ih]; rfl
    rw [this]; rfl
  | c :: cs, h => by
    rw [sum_swap, cnt_lt, List.map_cons, List.sum_cons, ← sum_lvl M cs fun d hd => h d (List.mem_cons_of_mem _ hd)]
    have := h c (List.mem_cons_self ..)
    omega
theorem ord_length {cs : List Col} (h : ∀ c ∈ cs, 1 ≤ c.2) (dn : Bool) : ((ordOf cs (plc cs dn)).length : Int) = (cs.map fun c => c.2 + 1).sum := by
  have e1 : ((plc cs dn).flatMap (lvl cs)).length = (((List.range (maxW cs)).map fun j : Nat => (j : Int)).flatMap (lvl cs)).length := by
    unfold plc
    cases dn
    · rfl
    · exact ((List.reverse_perm _).flatMap_right _).length_eq
  have e2 : (((List.range (maxW cs)).map fun j : Nat => (j : Int)).flatMap (lvl cs)).length = ((List.range (maxW cs)).map fun j : Nat => (lvl cs (j : Int)).length).sum := by
    rw [List.length_flatMap, List.map_map]; rfl
  unfold ordOf
  rw [List.length_append, List.length_map, e1, e2]
  have e3 := sum_lvl (maxW cs) cs fun c hc => ⟨by have := h c hc; omega, maxW_le cs c hc⟩
  have e4 : ∀ cs : List Col, (cs.map fun c => c.2 + 1).sum = (cs.map fun c => c.2).sum + (cs.length : Int) := fun cs => by
    induction cs with
    | nil => rfl
    | cons c cs ih => rw [List.map_cons, List.sum_cons, List.map_cons, List.sum_cons, ih, List.length_cons]; omega
  rw [e4]
  omega
end S
namespace S
open PySem PySem.Spec PyProof.Rows L2
def t__law_is_number (K : Frag) (E : XK) : TS :=
    tRet (dAndV (tCB (cIsi K) (tCons (dVar 0) (tCons (tC (.ty "int")) (tNil)))) (dNotV (tCB (cIsi K) (tCons (dVar 0) (tCons (tC (.ty "bool")) (tNil))))))
end S
-- fn: _law_is_number
-- law: k03
-- deps: D0
namespace S
open PySem PySem.Spec PyProof.Rows L2
def sp__law_is_number (K : Frag) : Sp := fun vs H Q _ => ∃ (i : Int), vs = [.int i] ∧ Q (.bl true) H
theorem isi_int {K : Frag} {H : Hp} {i : Int} {k : Bool → Prop} (q : k true) : Isi K H (.int i) (.type "int") k := Isi.of (.base (.int i)) rfl q
theorem isi_int_bool {K : Frag} {H : Hp} {i : Int} {k : Bool → Prop} (q : k false) : Isi K H (.int i) (.type "bool") k := Isi.of (.base (.int i)) rfl q
theorem pure__law_is_number {K : Frag} (vs : List V) (H : Hp) (Q : VK) (E : XK) (h : sp__law_is_number K vs H Q E) : t__law_is_number K E { nx := fun _ H' => Q .non H', rt := Q } (start ["_law_x"] vs) H := by
  obtain ⟨i, rfl, q⟩ := h
  refine isi_int ?_
  refine isi_int_bool ?_
  exact q
end S
namespace S
open PySem PySem.Spec PyProof.Rows L2
def t__law_is_order_b1_8 (K : Frag) (E : XK) : TS :=
    tAsg (dVar 6) (gName 3)
def t__law_is_order_b1_7 (K : Frag) (E : XK) : TS :=
    tSeq (dIfS (dAnd (dCmpT (oNe K) (dVar 3) (dLst (tNil))) (dCmpT (oLeL K) (dVar 6) (dVar 3))) (tRet (tC (.bl false))) (tNext))
    (stop (t__law_is_order_b1_8 K E))
def t__law_is_order_b1_6 (K : Frag) (E : XK) : TS :=
    tSeq (dIfS (dAnd (dCmpT oGe (tOp (oIx K) (dVar 4) (tC (.int 1))) (tC (.int 0))) (dNot (dTest K (dVar 2)))) (tAsg (dLst (tCons (tC (.int 1)) (tCons (tOp (oIx K) (dVar 4) (tC (.int 1))) (tCons (dVar 5) (tNil))))) (gName 6)) (tNext))
    (stop (t__law_is_order_b1_7 K E))
def t__law_is_order_b1_5 (K : Frag) (E : XK) : TS :=
    tSeq (dIfS (dAnd (dCmpT oGe (tOp (oIx K) (dVar 4) (tC (.int 1))) (tC (.int 0))) (dTest K (dVar 2))) (tAsg (dLst (tCons (tC (.int 1)) (tCons (tUn uNeg (tOp (oIx K) (dVar 4) (tC (.int 1)))) (tCons (dVar 5) (tNil))))) (gName 6)) (tNext))
    (stop (t__law_is_order_b1_6 K E))
def t__law_is_order_b1_4 (K : Frag) (E : XK) : TS :=
    tSeq (tAsg (dLst (tCons (tC (.int 0)) (tCons (tC (.int 0)) (tCons (dVar 5) (tNil))))) (gName 6))
    (stop (t__law_is_order_b1_5 K E))
def t__law_is_order_b1_3 (K : Frag) (E : XK) : TS :=
    tSeq (dIfS (dOr (dCmpT oLt (dVar 5) (tC (.int 0))) (dOr (dCmpT oLt (tOp (oIx K) (dVar 4) (tC (.int 1))) (tUn uNeg (tC (.int 1)))) (dCmpT oGe (tOp (oIx K) (dVar 4) (tC (.int 1))) (tOp (oIx K) (tOp (oIx K) (dVar 1) (dVar 5)) (tC (.int 1)))))) (tRet (tC (.bl false))) (tNext))
    (stop (t__law_is_order_b1_4 K E))
def t__law_is_order_b1_2 (K : Frag) (E : XK) : TS :=
    tSeq (tAsg (dCall (sp__law_index_of K) (EW E) (tCons (dVar 1) (tCons (tOp (oIx K) (dVar 4) (tC (.int 0))) (tNil)))) (gName 5))
    (stop (t__law_is_order_b1_3 K E))
def t__law_is_order_b1_1 (K : Frag) (E : XK) : TS :=
    tSeq (dIfS (dNot (dTest K (dCall (sp__law_is_number K) (EW E) (tCons (tOp (oIx K) (dVar 4) (tC (.int 1))) (tNil))))) (tRet (tC (.bl false))) (tNext))
    (stop (t__law_is_order_b1_2 K E))
def t__law_is_order_b1 (K : Frag) (E : XK) : TS :=
    tSeq (dIfS (dOr (dNot (dTest K (tCB (cIsi K) (tCons (dVar 4) (tCons (tC (.ty "tuple")) (tNil)))))) (dOr (dCmpT (oNe K) (tCB (cLen K) (tCons (dVar 4) (tNil))) (tC (.int 2))) (dNot (dTest K (tCB (cIsi K) (tCons (tOp (oIx K) (dVar 4) (tC (.int 0))) (tCons (tC (.ty "str")) (tNil)))))))) (tRet (tC (.bl false))) (tNext))
    (stop (t__law_is_order_b1_1 K E))
def t__law_is_order_3 (K : Frag) (E : XK) : TS :=
    tRet (tC (.bl true))
def t__law_is_order_2 (K : Frag) (E : XK) : TS :=
    tSeq (dFor (iSeq K (dVar 0)) (gName 4) (t__law_is_order_b1 K E))
    (stop (t__law_is_order_3 K E))
def t__law_is_order_1 (K : Frag) (E : XK) : TS :=
    tSeq (tAsg (dLst (tNil)) (gName 3))
    (stop (t__law_is_order_2 K E))
def t__law_is_order (K : Frag) (E : XK) : TS :=
    tSeq (dIfS (dOr (dNot (dTest K (tCB (cIsi K) (tCons (dVar 0) (tCons (tC (.ty "list")) (tNil)))))) (dCmpT (oNe K) (tCB (cLen K) (tCons (dVar 0) (tNil))) (tCB (cSum K) (tCons (dLc (iSeq K (dVar 1)) (gName 7) (tYes) (tOp (oAdd K) (tOp (oIx K) (dVar 7) (tC (.int 1))) (tC (.int 1))) [7]) (tNil))))) (tRet (tC (.bl false))) (tNext))
    (stop (t__law_is_order_1 K E))
end S
-- fn: _law_is_order
-- law: k37
-- leL: yes
-- deps: _law_index_of K37m _law_is_number Fstay D0 D1
namespace S
open PySem PySem.Spec PyProof.Rows L2
def sp__law_is_order (K : Frag) : Sp := fun vs H Q _ => ∃ (d p : Addr) (zs ys : List V) (cs : List Col) (dn : Bool), vs = [.ref d, .ref p, .bl dn] ∧ H d = some (.lst zs) ∧ Cols K H zs (ordOf cs (plc cs dn)) ∧ H p = some (.lst ys) ∧ Cols K H ys cs ∧ goodC cs ∧ cs.length ≤ 1000 ∧ (∀ c ∈ cs, c.2 ≤ 1000) ∧ ∀ H', Same H H' → Q (.bl true) H'
theorem ord_mem {cs : List Col} {dn : Bool} {e : Col} (h : e ∈ ordOf cs (plc cs dn)) : ∃ c ∈ cs, e.1 = c.1 ∧ -1 ≤ e.2 ∧ e.2 < c.2 ∨ e.1 = c.1 ∧ e.2 = -1 := by
  rcases List.mem_append.mp h with h | h
  · obtain ⟨c, hc, rfl⟩ := List.mem_map.mp h
    exact ⟨c, hc, .inr ⟨rfl, rfl⟩⟩
  · obtain ⟨p, hp, h⟩ := List.mem_flatMap.mp h
    obtain ⟨c, hc, rfl⟩ := List.mem_map.mp h
    obtain ⟨h1, h2⟩ := List.mem_filter.mp hc
    have := plc_pos cs dn p hp
    exact ⟨c, h1, .inl ⟨rfl, by show (-1 : Int) ≤ p; omega, of_decide_eq_true h2⟩⟩
def s37 (d p : Addr) (dn : Bool) (l : V) (x4 x5 x6 x7 : Option V) : L2.St := [some (.ref d), some (.ref p), some (.bl dn), some l, x4, x5, x6, x7]
section
variable {K : Frag} {E : XK} {D : L2.Ends} {H : Hp} {d p l r : Addr} {dn : Bool} {last rk : List Int} {x4 x5 x7 : Option V}
theorem o37_7 (hl : H l = some (.lst (last.map V.int))) (hr : H r = some (.lst (rk.map V.int))) (ok : last = [] ∨ ltL last rk = true) (q : ∀ H', Same H H' → D.nx (s37 d p dn (.ref r) x4 x5 (some (.ref r)) x7) H') :
    t__law_is_order_b1_7 K E D (s37 d p dn (.ref l) x4 x5 (some (.ref r)) x7) H := by
  walk_at "gx"
  refine ⟨fun n nn => ?_⟩
  have e1 := same_new (o := .lst ([] : List V)) nn
  refine eqd_ll (xs := last) (ys := []) (SqL.of (e1 _ _ hl)) (SqL.of upd_same) ?_
  refine ifn (fun h => ?_) (fun h => ?_)
  · walk_at "gx"
    refine ⟨⟨rk, last, SqL.of (e1 _ _ hr), SqL.of (e1 _ _ hl), ?_⟩⟩
    rw [ok.resolve_left h]
    walk_at "gx"
    exact q _ e1
  · walk_at "gx"
    exact q _ e1
theorem o37_4 {ad : Addr} {z : Str} {pl : Int} {k : Nat} {cs : List Col} {x6 : Option V} (hl : H l = some (.lst (last.map V.int))) (ht : SqT K H ad [.str z, .int pl]) (ek : ixC cs z = k) (ok : last = [] ∨ ltL last (rkC cs dn (z, pl)) = true) (q : ∀ (r : Addr) H', Same H H' → H' r = some (.lst ((rkC cs dn (z, pl)).map V.int)) → D.nx (s37 d p dn (.ref r) (some (.ref ad)) (some (.int k)) (some (.ref r)) x7) H') :
    t__law_is_order_b1_4 K E D (s37 d p dn (.ref l) (some (.ref ad)) (some (.int k)) x6 x7) H := by
  have r0 : ¬ 0 ≤ pl → rkC cs dn (z, pl) = [0, 0, (k : Int)] := fun h => by
    show (if 0 ≤ pl then _ else _) = _
    rw [if_neg h, ek]
  have r1 : 0 ≤ pl → rkC cs dn (z, pl) = [1, if dn then -pl else pl, (k : Int)] := fun h => by
    show (if 0 ≤ pl then _ else _) = _
    rw [if_pos h, ek]
  walk_at "gx"
  refine ⟨fun r0' nr0 => ?_⟩
  have e1 := same_new (o := .lst [V.int 0, V.int 0, V.int (k : Int)]) nr0
  have hr1 : upd H r0' (.lst [V.int 0, V.int 0, V.int (k : Int)]) r0' = some (.lst [V.int 0, V.int 0, V.int (k : Int)]) := upd_same
  generalize upd H r0' (.lst [V.int 0, V.int 0, V.int (k : Int)]) = H1 at *
  have hl1 := e1 _ _ hl
  have ht1 := Same.tup e1 ht
  by_cases h : 0 ≤ pl
  · have rr := r1 h
    cases dn with
    | true =>
      walk_at "gx"
      refine ift h ?_
      walk_at "gx"
      refine ⟨fun r2 nr2 => ?_⟩
      have e2 := same_new (o := .lst [V.int 1, V.int (-pl), V.int (k : Int)]) nr2
      have ht2 := Same.tup e2 ht1
      have hr2 : upd H1 r2 (.lst [V.int 1, V.int (-pl), V.int (k : Int)]) r2 = some (.lst ((rkC cs true (z, pl)).map V.int)) := by rw [upd_same, rr]; rfl
      have e12 := e1.trans e2
      have hl2 := e2 _ _ hl1
      generalize upd H1 r2 (.lst [V.int 1, V.int (-pl), V.int (k : Int)]) = H2 at *
      walk_at "gx"
      refine ift h ?_
      exact ⟨o37_7 hl2 hr2 ok fun H' e => q r2 H' (e12.trans e) (e _ _ hr2)⟩
    | false =>
      walk_at "gx"
      refine ift h ?_
      walk_at "gx"
      refine ift h ?_
      walk_at "gx"
      refine ⟨fun r2 nr2 => ?_⟩
      have e2 := same_new (o := .lst [V.int 1, V.int pl, V.int (k : Int)]) nr2
      have hr2 : upd H1 r2 (.lst [V.int 1, V.int pl, V.int (k : Int)]) r2 = some (.lst ((rkC cs false (z, pl)).map V.int)) := by rw [upd_same, rr]; rfl
      have e12 := e1.trans e2
      have hl2 := e2 _ _ hl1
      generalize upd H1 r2 (.lst [V.int 1, V.int pl, V.int (k : Int)]) = H2 at *
      exact ⟨o37_7 hl2 hr2 ok fun H' e => q r2 H' (e12.trans e) (e _ _ hr2)⟩
  · have rr := r0 h
    have hr2 : H1 r0' = some (.lst ((rkC cs dn (z, pl)).map V.int)) := by rw [hr1, rr]; rfl
    walk_at "gx"
    refine iff' h ?_
    walk_at "gx"
    refine iff' h ?_
    exact ⟨o37_7 hl1 hr2 ok fun H' e => q r0' H' (e1.trans e) (e _ _ hr2)⟩
end
theorem pure__law_is_order {K : Frag} (vs : List V) (H : Hp) (Q : VK) (E : XK) (h : sp__law_is_order K vs H Q E) : t__law_is_order K E { nx := fun _ H' => Q .non H', rt := Q } (start ["_law_told", "_law_columns", "_law_down", "_law_last", "_law_piece", "_law_index", "_law_rank", "_law_pair"] vs) H := by
  obtain ⟨d, p, zs, ys, cs, dn, rfl, hd, hZ, hp, hC, hg, lc, hw, q⟩ := h
  have hpos : ∀ c ∈ cs, 1 ≤ c.2 := fun c hc => (hg.2 c hc).2
  have len := ord_length hpos dn
  have asc := ord_asc hg.1 dn
  have lz : zs.length = (ordOf cs (plc cs dn)).length := (Paired.length hZ).symm
  walk_at "gx"
  refine isi_lst hd ?_
  walk_at "gx"
  refine lc_colsI (fun c => .int (c.2 + 1)) (fun _ => true) (.inl (SqL.of hp)) hC (by omega) ?_ fun g H1 ng hg1 e1 => ?_
  · intro c ad H3 A B hc e ht hA hB
    refine ⟨rfl, ?_⟩
    refine Rd.st ht ?_
    refine S.At.of (atI_nat (j := 1) rfl) ?_
    exact hA rfl
  rw [List.filter_eq_self.mpr fun _ _ => rfl] at hg1
  have hg1' : H1 g = some (.lst ((cs.map fun c => c.2 + 1).map V.int)) := by rw [hg1, List.map_map]; rfl
  dsimp only [tNil]
  refine ⟨⟨_, SqL.of hg1', ?_⟩⟩
  have el : (zs.length : Int) = (cs.map fun c => c.2 + 1).sum := by rw [lz]; exact len
  refine ifnf el ?_
  have hd1 := e1 _ _ hd
  have hZ1 := hZ.same e1
  have hp1 := e1 _ _ hp
  have hC1 := hC.same e1
  walk_at "gx"
  refine ⟨fun l nl => ?_⟩
  have e2 := same_new (o := .lst ([] : List V)) nl
  have hl2 : upd H1 l (.lst ([] : List V)) l = some (.lst (([] : List Int).map V.int)) := upd_same
  have e12 := e1.trans e2
  generalize upd H1 l (.lst ([] : List V)) = H2 at *
  have hd2 := e2 _ _ hd1
  have hZ2 := hZ1.same e2
  have hp2 := e2 _ _ hp1
  have hC2 := hC1.same e2
  walk_at "gx"
  refine for_stay (K := K) (fun i σ H' => ∃ (l : Addr) (last : List Int) (x4 x5 x6 x7 : Option V), σ = s37 d p dn (.ref l) x4 x5 x6 x7 ∧ H' l = some (.lst (last.map V.int)) ∧ ∀ e, (ordOf cs (plc cs dn))[i]? = some e → last = [] ∨ ltL last (rkC cs dn e) = true) (.inl (SqL.of hd2)) ⟨l, [], _, _, _, _, rfl, hl2, fun _ _ => .inl rfl⟩ ?_ ?_
  · rintro i y σ H3 hi ⟨l, last, x4, x5, x6, x7, rfl, hl, hok⟩ e3
    obtain ⟨e, he, ad, rfl, ht⟩ := cols_at (hZ2.same e3) hi
    obtain ⟨c, hc, hce⟩ := ord_mem (List.mem_of_getElem? he)
    obtain ⟨k, hk⟩ := List.mem_iff_getElem?.mp hc
    have ez : e.1 = c.1 := by rcases hce with h | h; exact h.1; exact h.1
    have e0 : -1 ≤ e.2 := by rcases hce with h | h; exact h.2.1; rw [h.2]; decide
    have e9 : e.2 < c.2 := by
      rcases hce with h | h
      · exact h.2.2
      · have := hpos c hc; rw [h.2]; omega
    obtain ⟨z, pl⟩ := e
    have ez : z = c.1 := ez
    subst ez
    have hok := hok _ he
    have hp3 := e3 _ _ hp2
    have hC3 := hC2.same e3
    obtain ⟨hkl, _⟩ := List.getElem?_eq_some_iff.mp hk
    have ly : ys.length = cs.length := (Paired.length hC).symm
    have hgetk : ys[k]? = some ys[k] := List.getElem?_eq_getElem (by omega)
    obtain ⟨c2, hc2, ad2, ead2, ht2⟩ := cols_at hC3 hgetk
    rw [ead2] at hgetk
    rw [hk] at hc2
    injection hc2 with hc2
    subst hc2
    show t__law_is_order_b1 K E _ (s37 d p dn (.ref l) (some (.ref ad)) x5 x6 x7) H3
    walk_at "gx"
    refine isi_tup ht ?_
    refine Rd.st ht ?_
    refine Rd.st ht ?_
    refine S.At.of (atI_nat (j := 0) rfl) ?_
    refine Isi.of (.base (.str c.1)) rfl ?_
    walk_at "gx"
    try refine Rd.st ht ?_
    try refine S.At.of (atI_nat (j := 1) rfl) ?_
    refine ⟨pl, rfl, ?_⟩
    walk_at "gx"
    try refine Rd.st ht ?_
    try refine S.At.of (atI_nat (j := 0) rfl) ?_
    refine ⟨p, ys, cs, k, c, rfl, hp3, hC3, lc, hg.1, hk, ?_⟩
    walk_at "gx"
    try refine Rd.st ht ?_
    try refine S.At.of (atI_nat (j := 1) rfl) ?_
    refine iff' (by show ¬ pl < -1; have : -1 ≤ pl := e0; omega) ?_
    try refine Rd.st ht ?_
    try refine S.At.of (atI_nat (j := 1) rfl) ?_
    walk_at "gx"
    try refine S.At.of (atI_nat hgetk) ?_
    try refine Rd.st ht2 ?_
    try refine S.At.of (atI_nat (j := 1) rfl) ?_
    refine iff' (by show ¬ c.2 ≤ pl; have : pl < c.2 := e9; omega) ?_
    refine ⟨o37_4 (cs := cs) hl ht (show ixC cs c.1 = k from ixC_at (c := c) hg.1 hk) hok fun r H4 e4 hr => ⟨⟨r, _, _, _, _, _, rfl, hr, fun e2 he2 => .inr ?_⟩, e3.trans e4⟩⟩
    obtain ⟨h1, g1⟩ := List.getElem?_eq_some_iff.mp he
    obtain ⟨h2, g2⟩ := List.getElem?_eq_some_iff.mp he2
    have := List.pairwise_iff_getElem.mp asc i (i + 1) h1 h2 (by omega)
    rw [g1, g2] at this
    exact this
  · rintro σ H3 ⟨l, last, x4, x5, x6, x7, rfl, hl, hok⟩ e3
    walk_at "gx"
    exact q H3 (e12.trans e3)
end S
-- deps: D0 D1
namespace S
open PySem PySem.Spec PyProof.Rows L2
theorem dp_bls {K : Frag} {H : Hp} : ∀ ns : List Bool, DpAll K H (ns.map V.bl) (ns.map PyData.bool)
  | [] => .nil
  | n :: r => .cons (.bl n) (dp_bls r)
theorem can_bls : ∀ ns : List Bool, PyData.canLayAll0 (ns.map PyData.bool) = true
  | [] => rfl
  | n :: r => by
    show (PyData.canLay0 (.bool n) && PyData.canLayAll0 (r.map PyData.bool)) = true
    rw [can_bls r]; rfl
theorem dep_bls : ∀ ns : List Bool, PyData.depthAll (ns.map PyData.bool) = 0
  | [] => rfl
  | n :: r => by
    show max (PyData.depth (.bool n)) (PyData.depthAll (r.map PyData.bool)) = 0
    rw [dep_bls r]; rfl
theorem shp_bls (ns : List Bool) : SeqAt.shaped (.list (ns.map PyData.bool)) = true := by
  unfold SeqAt.shaped
  have e1 : PyData.canLay0 (.list (ns.map PyData.bool)) = true := can_bls ns
  have e2 : PyData.depth (.list (ns.map PyData.bool)) = 1 := by show PyData.depthAll _ + 1 = 1; rw [dep_bls]
  rw [e1, e2]; rfl
theorem eqv_bls : ∀ xs ys : List Bool, PyData.eqvAll (xs.map PyData.bool) (ys.map PyData.bool) = decide (xs = ys)
  | [], [] => rfl
  | [], _ :: _ => by simp [PyData.eqvAll]
  | _ :: _, [] => by simp [PyData.eqvAll]
  | x :: xs, y :: ys => by
    show (PyData.eqv (.bool x) (.bool y) && PyData.eqvAll (xs.map PyData.bool) (ys.map PyData.bool)) = _
    rw [eqv_bls xs ys]
    have e : PyData.eqv (.bool x) (.bool y) = decide (x = y) := by cases x <;> cases y <;> rfl
    rw [e]
    by_cases h : x = y <;> by_cases h2 : xs = ys <;> simp [h, h2]
theorem eqd_bb {K : Frag} {H : Hp} {a b : Addr} {xs ys : List Bool} {k : Bool → Prop} (h : SqL K H a (xs.map V.bl)) (h2 : SqL K H b (ys.map V.bl)) (q : k (decide (xs = ys))) : EqD K H (.ref a) (.ref b) k :=
  ⟨_, _, .lst h (dp_bls xs), .lst h2 (dp_bls ys), shp_bls xs, shp_bls ys, by
    have e : PyData.eqv (.list (xs.map PyData.bool)) (.list (ys.map PyData.bool)) = decide (xs = ys) := eqv_bls xs ys
    rw [e]; exact q⟩
theorem kit_VE : PySem.W.kitMeta "ValueError" = true := by decide +kernel
end S
-- deps: eqd_bb D1
namespace S
open PySem PySem.Spec PyProof.Rows L2
theorem eqd_told {K : Frag} {H : Hp} {a b : Addr} {r : Int} {b1 b2 b3 : Bool} {k : Bool → Prop} (h : SqL K H a [.int r, .bl b1, .bl b2, .bl b3]) (h2 : SqL K H b [.int r, .bl b1, .bl b2, .bl b3]) (q : k true) : EqD K H (.ref a) (.ref b) k :=
  ⟨_, _, .lst h (.cons (.int r) (.cons (.bl b1) (.cons (.bl b2) (.cons (.bl b3) .nil)))), .lst h2 (.cons (.int r) (.cons (.bl b1) (.cons (.bl b2) (.cons (.bl b3) .nil)))), rfl, rfl, by
    have e : PyData.eqv (.list [.int r, .bool b1, .bool b2, .bool b3]) (.list [.int r, .bool b1, .bool b2, .bool b3]) = true := by
      show ((r == r) && ((PyData.eqv (.bool b1) (.bool b1)) && ((PyData.eqv (.bool b2) (.bool b2)) && ((PyData.eqv (.bool b3) (.bool b3)) && true)))) = true
      have e1 : ∀ b : Bool, PyData.eqv (.bool b) (.bool b) = true := fun b => by cases b <;> rfl
      rw [e1, e1, e1]
      simp
    rw [e]; exact q⟩
end S
namespace S
open PySem PySem.Spec PyProof.Rows L2
def t__law_refused_2 (K : Frag) (E : XK) : TS :=
    tRet (tOp (oEq K) (dVar 2) (dLst (tCons (tC (.bl true)) (tCons (tC (.bl true)) (tCons (tC (.bl false)) (tNil))))))
def t__law_refused_1 (K : Frag) (E : XK) : TS :=
    tSeq (dGivS (ExF K "SliceError" []) (dTry K "SliceError" 3 (fun W1 => tDrop (dMethD K "Schema" "reading_order" (sp_Schema_reading_order K) (WE W1) (dVar 0) (tCons (dVar 1) (tNil)))) (fun a1 cls1 d1 => tAsg (dLst (tCons (dGiv (MF K "BadOrder" ["SliceError"] veTys) (tCB (cIsE K a1 cls1 d1) (tCons (dVar 3) (tCons (tC (.ref (He.ga K "BadOrder"))) (tNil))))) (tCons (tCB (cIsE K a1 cls1 d1) (tCons (dVar 3) (tCons (tC (.ty "ValueError")) (tNil)))) (tCons (dGiv (MF K "BadSchema" ["SliceError"] veTys) (tCB (cIsE K a1 cls1 d1) (tCons (dVar 3) (tCons (tC (.ref (He.ga K "BadSchema"))) (tNil))))) (tNil))))) (gName 2)) (WD E)))
    (stop (t__law_refused_2 K E))
def t__law_refused (K : Frag) (E : XK) : TS :=
    tSeq (tAsg (dLst (tNil)) (gName 2))
    (stop (t__law_refused_1 K E))
end S
-- fn: _law_refused
-- law: k37
-- deps: Schema_reading_order Told D0 D1
namespace S
open PySem PySem.Spec PyProof.Rows L2
def sp__law_refused (K : Frag) : Sp := fun vs H Q _ => ∃ (x : Addr) (cs : List Col) (w : Str), vs = [.ref x, .str w] ∧ Sc K H x cs ∧ (∀ c ∈ cs, c.2 ≤ 1000) ∧ cs.length ≤ 100 ∧ w ≠ "high" ∧ w ≠ "low" ∧ ∀ H', Same H H' → Q (.bl true) H'
theorem pure__law_refused {K : Frag} (vs : List V) (H : Hp) (Q : VK) (E : XK) (h : sp__law_refused K vs H Q E) : t__law_refused K E { nx := fun _ H' => Q .non H', rt := Q } (start ["_law_schema", "_law_word", "_law_told", "e"] vs) H := by
  obtain ⟨x, cs, w, rfl, hs, hw, lc, n1, n2, q⟩ := h
  walk_at "gx"
  refine ⟨fun t0 nt0 => ?_⟩
  have e1 : Same H (upd H t0 (.lst [])) := same_new nt0
  have hs1 := hs.same e1
  obtain ⟨_, _, _, dx, u, ys, hx, _, _⟩ := id hs1
  walk_at "gx"
  refine fun sf => ?_
  refine IsD.of hx ⟨x, cs, w, rfl, hs1, hw, lc, fun dn ew => ?_, fun _ _ xf H2 e2 => ?_⟩
  · cases dn
    · exact absurd ew n2
    · exact absurd ew n1
  refine hdl_yes (by rw [mf_exm xf.mf sf.mf (by decide)] <;> first | rfl | decide) fun ea hea => ?_
  refine fun m1 => ?_
  refine IsE.of xf.ec (by rw [mf_kit xf.mf m1] <;> first | rfl | decide) ?_
  refine IsE.of xf.ec (by rw [mf_kty xf.mf kit_VE] <;> first | rfl | decide) ?_
  refine fun m2 => ?_
  refine IsE.of xf.ec (by rw [mf_kit xf.mf m2] <;> first | rfl | decide) ?_
  walk_at "gx"
  refine ⟨fun t2 nt2 => ?_⟩
  walk_at "gx"
  refine ⟨fun t3 nt3 => ?_⟩
  have e3 := ((e1.trans e2).trans (same_new (o := .lst [.bl true, .bl true, .bl false]) nt2)).trans (same_new (o := .lst [.bl true, .bl true, .bl false]) nt3)
  refine eqd_bb (xs := [true, true, false]) (ys := [true, true, false]) (SqL.of (same_new nt3 _ _ upd_same)) (SqL.of upd_same) ?_
  exact q _ e3
end S
-- deps: D0 D1
/-! ## a text of signs joined by nothing -/
namespace S
open PySem PySem.Spec PyProof.Rows L2
theorem txj_app (a y : Str) : (a ++ y).cps.toList = a.cps.toList ++ y.cps.toList := by
  rw [PySem.Str.cps_append, Array.toList_append]
theorem txj_list : ∀ l : List Str, (Txt.join ("" : Str) l).cps.toList = l.flatMap (fun x => x.cps.toList)
  | [] => rfl
  | [x] => by simp [Txt.join]; rfl
  | x :: y :: r => by
    have ih := txj_list (y :: r)
    have e : Txt.join ("" : Str) (x :: y :: r) = x ++ ("" : Str) ++ Txt.join ("" : Str) (y :: r) := by
      show Builtin.Str.glued _ _ = _ ++ Builtin.Str.glued _ _
      rw [StrLaws.glued_eq_join, StrLaws.glued_eq_join]; rfl
    rw [e, txj_app, txj_app, ih]
    show (x.cps.toList ++ []) ++ _ = _
    rw [List.append_nil]; rfl
theorem txj_signs (l : List Nat) : (Txt.join ("" : Str) (l.map fun c => (⟨#[c]⟩ : Str))).cps.toList = l := by
  rw [txj_list]
  induction l with
  | nil => rfl
  | cons c l ih => rw [List.map_cons, List.flatMap_cons, ih]; rfl
end S
namespace S
open PySem PySem.Spec PyProof.Rows L2
def t__law_draw_7 (K : Frag) (E : XK) : TS :=
    tRet (tOp oMod (tCB cInt (tCons (dVar 6) (tNil))) (dVar 2))
def t__law_draw_6 (K : Frag) (E : XK) : TS :=
    tSeq (tAsg (tOp oMod (tCB cInt (tCons (tOp oMulA (dVar 6) (dVar 6)) (tNil))) (tC (.int 999983))) (gName 6))
    (stop (t__law_draw_7 K E))
def t__law_draw_5 (K : Frag) (E : XK) : TS :=
    tSeq (tAsg (tOp oMod (tCB cInt (tCons (tOp (oAdd K) (tOp oMulA (dVar 6) (dVar 6)) (dVar 4)) (tNil))) (tC (.int 1000003))) (gName 6))
    (stop (t__law_draw_6 K E))
def t__law_draw_4 (K : Frag) (E : XK) : TS :=
    tSeq (tAsg (tOp oMod (tCB cInt (tCons (tOp (oAdd K) (tOp oMulA (dVar 4) (tOp (oAdd K) (tOp (oAdd K) (tC (.int 48271)) (tOp oMulA (tC (.int 7919)) (tOp (oIx K) (dVar 1) (tC (.int 1))))) (tOp oMulA (tC (.int 104729)) (tOp (oIx K) (dVar 1) (tC (.int 0)))))) (tOp oMulA (tC (.int 611953)) (tOp (oIx K) (dVar 1) (tC (.int 3))))) (tNil))) (tC (.int 2147483647))) (gName 6))
    (stop (t__law_draw_5 K E))
def t__law_draw_3 (K : Frag) (E : XK) : TS :=
    tSeq (dIfS (dCmpT (oEq K) (tOp (oIx K) (dVar 1) (tC (.int 3))) (tC (.int 2))) (tSeq (tAsg (tOp oFdiv (dVar 4) (tC (.int 1000))) (gSub (dVar 1) (tC (.int 2)) oSet))
    (tSeq (dIfS (dCmpT (oEq K) (tOp (oIx K) (dVar 1) (tC (.int 2))) (tC (.int 0))) (tAsg (tC (.int 0)) (gSub (dVar 1) (tC (.int 1)) oSet)) (tNext))
    (tSeq (tAsg (tOp oMod (tCB cInt (tCons (dVar 4) (tNil))) (tC (.int 1000))) (gName 5))
    (tRet (tOp oMod (tCB cInt (tCons (dVar 5) (tNil))) (dVar 2)))))) (tNext))
    (stop (t__law_draw_4 K E))
def t__law_draw_2 (K : Frag) (E : XK) : TS :=
    tSeq (tAsg (tCB cInt (tCons (tOp (oIx K) (dVar 1) (tC (.int 2))) (tNil))) (gName 4))
    (stop (t__law_draw_3 K E))
def t__law_draw_1 (K : Frag) (E : XK) : TS :=
    tSeq (tAsg (tOp oSub (tOp (oIx K) (dVar 1) (tC (.int 1))) (tC (.int 1))) (gSub (dVar 1) (tC (.int 1)) oSet))
    (stop (t__law_draw_2 K E))
def t__law_draw (K : Frag) (E : XK) : TS :=
    tSeq (dIfS (dCmpT (oEq K) (tOp (oIx K) (dVar 1) (tC (.int 1))) (tC (.int 0))) (tSeq (tAsg (tOp (oIx K) (dVar 1) (tC (.int 0))) (gName 3))
    (tSeq (tAsg (tOp (oAdd K) (dVar 3) (tC (.int 1))) (gSub (dVar 1) (tC (.int 0)) oSet))
    (tSeq (dIfS (dCmpT oGe (dVar 3) (tCB (cLen K) (tCons (dVar 0) (tNil)))) (tRet (tC (.int 0))) (tNext))
    (tSeq (tAsg (tCB cAbs (tCons (tOp (oIx K) (dVar 0) (dVar 3)) (tNil))) (gSub (dVar 1) (tC (.int 2)) oSet))
    (tSeq (tAsg (tCB cInt (tCons (tOp oLt (tOp (oIx K) (dVar 0) (dVar 3)) (tC (.int 0))) (tNil))) (gSub (dVar 1) (tC (.int 3)) oSet))
    (tSeq (tAsg (tC (.int 12)) (gSub (dVar 1) (tC (.int 1)) oSet))
    (dIfS (dCmpT oGe (tOp (oIx K) (dVar 1) (tC (.int 2))) (tOp oPow (tC (.int 10)) (tC (.int 18)))) (tSeq (tAsg (tC (.int 60)) (gSub (dVar 1) (tC (.int 1)) oSet))
    (tAsg (tC (.int 2)) (gSub (dVar 1) (tC (.int 3)) oSet))) (tNext)))))))) (tNext))
    (stop (t__law_draw_1 K E))
end S
-- fn: _law_draw
-- law: k03
-- deps: D0
namespace S
open PySem PySem.Spec PyProof.Rows L2
theorem pure__law_draw {K : Frag} (vs : List V) (H : Hp) (Q : VK) (E : XK) (h : sp__law_draw K vs H Q E) : t__law_draw K E { nx := fun _ H' => Q .non H', rt := Q } (start ["_law_script", "_law_state", "_law_base", "_law_here", "_law_number", "_law_digit", "_law_mixed"] vs) H := by
  obtain ⟨a, st, base, rfl, ⟨⟨ns, hscr⟩, l, hl, A, B, N, k, rfl, hA, hN, hd⟩, hb, q⟩ := h

  have hsl : ∀ H1, SameX st H H1 → SqL K H1 a (ns.map V.int) := fun H1 e => (hscr.x e).sl
  have fin : ∀ (x : Int) (l : List V) (H1 : Hp), SameX st H H1 → H1 st = some (.lst l) → DrawSt l → Q (.int (x % base)) H1 := fun x l H1 e h d =>
    q _ _ (Int.emod_nonneg _ (by omega)) (Int.emod_lt_of_pos _ hb) ⟨⟨ns, hscr.x e⟩, l, h, d⟩ e
  have tail : ∀ (A B N k : Int) (w : Option V) (H' : Hp), 0 ≤ A → 0 ≤ N → (k = 2 ∨ N < 10 ^ 18) → SameX st H H' → H' st = some (.lst [.int A, .int B, .int N, .int k]) →
      t__law_draw_1 K E { nx := fun _ H' => Q .non H', rt := Q } [some (.ref a), some (.ref st), some (.int base), w, none, none, none] H' := by
    intro A B N k w H' hA hN hk hs hl
    have h1000 : 0 ≤ N / 1000 := Int.ediv_nonneg hN (by decide)
    walk_at "gx"
    refine ifd (fun hk2 => ?_) (fun hk2 => ?_)
    · walk_at "gx"
      refine ifd (fun hz => ?_) (fun hz => ?_)
      · walk_at "gx"
        exact fin _ _ _ (hs.trans (SameX.upd.trans (SameX.upd.trans SameX.upd))) upd_same ⟨_, _, _, _, rfl, hA, h1000, .inl rfl⟩
      · walk_at "gx"
        exact fin _ _ _ (hs.trans (SameX.upd.trans SameX.upd)) upd_same ⟨_, _, _, _, rfl, hA, h1000, .inr (.inl hk2)⟩
    · have hN2 : N < 10 ^ 18 := by omega
      walk_at "gx"
      exact fin _ _ _ (hs.trans SameX.upd) upd_same ⟨_, _, _, _, rfl, hA, hN, .inr (.inr hN2)⟩
  walk_at "go"
  refine ifd (fun hB => ?_) (fun hB => ?_)
  · walk_at "go"
    rw [List.length_map]
    refine ifd (fun hlen => ?_) (fun hlen => ?_)
    · exact q 0 _ (Int.le_refl 0) hb ⟨⟨ns, hscr.x SameX.upd⟩, _, upd_same, _, _, _, _, rfl, by omega, hN, hd⟩ SameX.upd
    · obtain ⟨x, hx⟩ := at_ints (ns := ns) hA (by omega)
      walk_at "go"
      refine ifd (fun hbig => ?_) (fun hbig => ?_)
      · walk_at "go"
        exact ⟨tail _ _ _ _ _ _ (by omega) (by omega) (.inl rfl) (SameX.upd.trans (SameX.upd.trans (SameX.upd.trans (SameX.upd.trans (SameX.upd.trans SameX.upd))))) upd_same⟩
      · have hb2 : ¬ ((10 : Int) ^ 18 ≤ x.natAbs) := hbig
        exact ⟨tail _ _ _ _ _ _ (by omega) (by omega) (.inr (by omega)) (SameX.upd.trans (SameX.upd.trans (SameX.upd.trans SameX.upd))) upd_same⟩
  · exact ⟨tail A B N k _ H hA hN (by omega) (SameX.refl _ _) hl⟩
end S
namespace S
open PySem PySem.Spec PyProof.Rows L2
def t__law_names_b2 (K : Frag) (E : XK) : TS :=
    tAsg (tOp (oAdd K) (dVar 6) (tOp (oIx K) (dVar 3) (dCall (sp__law_draw K) (EW E) (tCons (dVar 0) (tCons (dVar 1) (tCons (tC (.int 26)) (tNil))))))) (gName 6)
def t__law_names_b3_1 (K : Frag) (E : XK) : TS :=
    dIfS (dAnd (dCmpT (oEq K) (dVar 9) (tC (.str ""))) (dCmpT (oNin K) (dVar 10) (dVar 4))) (tAsg (dVar 10) (gName 9)) (tNext)
def t__law_names_b3 (K : Frag) (E : XK) : TS :=
    tSeq (tAsg (tOp (oAdd K) (dVar 6) (tOp (oIx K) (dVar 3) (tOp oMod (tCB cInt (tCons (tOp (oAdd K) (dVar 8) (dVar 7)) (tNil))) (tC (.int 26))))) (gName 10))
    (stop (t__law_names_b3_1 K E))
def t__law_names_b1_5 (K : Frag) (E : XK) : TS :=
    tDrop (dML K mApp (dVar 4) (tCons (dVar 9) (tNil)))
def t__law_names_b1_4 (K : Frag) (E : XK) : TS :=
    tSeq (dFor (iRng (tCons (tC (.int 26)) (tNil))) (gName 7) (t__law_names_b3 K E))
    (stop (t__law_names_b1_5 K E))
def t__law_names_b1_3 (K : Frag) (E : XK) : TS :=
    tSeq (tAsg (tC (.str "")) (gName 9))
    (stop (t__law_names_b1_4 K E))
def t__law_names_b1_2 (K : Frag) (E : XK) : TS :=
    tSeq (tAsg (dCall (sp__law_draw K) (EW E) (tCons (dVar 0) (tCons (dVar 1) (tCons (tC (.int 26)) (tNil))))) (gName 8))
    (stop (t__law_names_b1_3 K E))
def t__law_names_b1_1 (K : Frag) (E : XK) : TS :=
    tSeq (dFor (iRng (tCons (dCall (sp__law_draw K) (EW E) (tCons (dVar 0) (tCons (dVar 1) (tCons (tC (.int 8)) (tNil))))) (tNil))) (gName 7) (t__law_names_b2 K E))
    (stop (t__law_names_b1_2 K E))
def t__law_names_b1 (K : Frag) (E : XK) : TS :=
    tSeq (tAsg (tC (.str "")) (gName 6))
    (stop (t__law_names_b1_1 K E))
def t__law_names_3 (K : Frag) (E : XK) : TS :=
    tRet (dVar 4)
def t__law_names_2 (K : Frag) (E : XK) : TS :=
    tSeq (dFor (iRng (tCons (dVar 2) (tNil))) (gName 5) (t__law_names_b1 K E))
    (stop (t__law_names_3 K E))
def t__law_names_1 (K : Frag) (E : XK) : TS :=
    tSeq (tAsg (dLst (tNil)) (gName 4))
    (stop (t__law_names_2 K E))
def t__law_names (K : Frag) (E : XK) : TS :=
    tSeq (tAsg (tC (.str "abcdefghijklmnopqrstuvwxyz")) (gName 3))
    (stop (t__law_names_1 K E))
end S
-- fn: _law_names
-- law: k36
-- deps: Schema_init Txj _law_draw Li D0 D1
namespace S
open PySem PySem.Spec PyProof.Rows L2
def lowL (i : Nat) : Str := ⟨#[i + 97]⟩
theorem str_ext {x y : Str} (h : x.cps.toList = y.cps.toList) : x = y := by
  cases x; cases y
  congr 1
  exact Array.toList_inj.mp h
theorem word_inj {x : Str} {i j : Nat} (h : x ++ lowL i = x ++ lowL j) : i = j := by
  have e := congrArg (fun z : Str => z.cps.toList) h
  simp only [txj_app] at e
  have e2 := List.append_cancel_left e
  have e3 : [i + 97] = [j + 97] := e2
  injection e3 with e3 _
  omega
theorem word_ok {x : Str} {i : Nat} (hx : ∀ c ∈ x.cps.toList, lowC c) (l : x.cps.size ≤ 7) (hi : i < 26) : nameOk (x ++ lowL i) := by
  have e : (x ++ lowL i).cps.toList = x.cps.toList ++ [i + 97] := txj_app _ _
  have ls : (x ++ lowL i).cps.size = x.cps.size + 1 := by
    rw [← Array.length_toList, e, List.length_append, Array.length_toList]; rfl
  refine ⟨fun c hc => ?_, by omega, by omega⟩
  rw [e] at hc
  rcases List.mem_append.mp hc with hc | hc
  · exact hx c hc
  · rw [List.mem_singleton.mp hc]; unfold lowC; omega
theorem nodup_lenG {α : Type} [DecidableEq α] : ∀ (L S : List α), L.Nodup → (∀ z ∈ L, z ∈ S) → L.length ≤ S.length
  | [], _, _, _ => Nat.zero_le _
  | x :: L, S, nd, hs => by
    obtain ⟨h1, h2⟩ := List.pairwise_cons.mp nd
    have hx := hs x (List.mem_cons_self ..)
    have ih := nodup_lenG L (S.erase x) h2 fun z hz => (List.mem_erase_of_ne (fun e => h1 z hz e.symm)).mpr (hs z (List.mem_cons_of_mem _ hz))
    have e := List.length_erase_of_mem hx
    have := List.length_pos_of_mem hx
    rw [List.length_cons]
    omega
theorem word_new {x : Str} {L : List Str} (t : Nat) (l : L.length < 26) : ∃ j, j < 26 ∧ x ++ lowL ((t + j) % 26) ∉ L := by
  refine Classical.byContradiction fun hn => ?_
  have all : ∀ w ∈ (List.range 26).map (fun j => x ++ lowL ((t + j) % 26)), w ∈ L := fun w hw => by
    obtain ⟨j, hj, rfl⟩ := List.mem_map.mp hw
    exact Classical.byContradiction fun h => hn ⟨j, List.mem_range.mp hj, h⟩
  have nd : ((List.range 26).map (fun j => x ++ lowL ((t + j) % 26))).Nodup := by
    refine List.pairwise_map.mpr ((List.pairwise_lt_range (n := 26)).imp_of_mem fun {a b} ha hb hab => ?_)
    have h1 := List.mem_range.mp ha
    have h2 := List.mem_range.mp hb
    intro e
    have := word_inj e
    omega
  have := nodup_lenG _ _ nd all
  rw [List.length_map, List.length_range] at this
  omega
def sp__law_names (K : Frag) : Sp := fun vs H Q _ => ∃ (a st : Addr) (n : Int), vs = [.ref a, .ref st, .int n] ∧ Ctx K H a st ∧ 0 ≤ n ∧ n ≤ 20 ∧
  ∀ (p : Addr) (L : List Str) (H' : Hp), H p = none → H' p = some (.lst (L.map V.str)) → (L.length : Int) = n → L.Nodup → (∀ z ∈ L, nameOk z) → Ctx K H' a st → SameX st H H' → Q (.ref p) H'
def s36n (a st p : Addr) (n : Int) (k5 k6 k7 k8 k9 k10 : Option V) : L2.St := [some (.ref a), some (.ref st), some (.int n), some (.str "abcdefghijklmnopqrstuvwxyz"), some (.ref p), k5, k6, k7, k8, k9, k10]
theorem pure__law_names {K : Frag} (vs : List V) (H : Hp) (Q : VK) (E : XK) (h : sp__law_names K vs H Q E) : t__law_names K E { nx := fun _ H' => Q .non H', rt := Q } (start ["_law_script", "_law_state", "_law_count", "_law_letters", "_law_names_here", "_law_k", "_law_head", "_law_j", "_law_tail", "_law_name", "_law_word"] vs) H := by
  obtain ⟨a, st, n, rfl, hc, n0, n1, q⟩ := h
  walk_at "gx"
  refine ⟨fun p np => ?_⟩
  have c1 := hc.same (same_new (o := .lst ([] : List V)) np)
  have pst := ctx_ne hc np
  walk_at "gx"
  refine for_rng (fun i σ H3 => ∃ (L : List Str) (k5 k6 k7 k8 k9 k10 : Option V), σ = s36n a st p n k5 k6 k7 k8 k9 k10 ∧ H3 p = some (.lst (L.map V.str)) ∧ L.length = i ∧ L.Nodup ∧ (∀ z ∈ L, nameOk z) ∧ Ctx K H3 a st ∧ SameX st H H3) ⟨[], none, none, none, none, none, none, rfl, upd_same, rfl, .nil, (fun _ z => nomatch z), c1, Same.x (same_new np)⟩ ?_ ?_
  · rintro i σ H3 hi ⟨L, k5, k6, k7, k8, k9, k10, rfl, hL, lL, nd, ok, c3, e3⟩
    walk_at "gx"
    refine ⟨a, st, _, rfl, c3, by decide, fun d H4 d0 d1 c4 e4 => ?_⟩
    have d1 : d < 8 := d1
    have hL4 := e4 _ _ hL pst
    refine Need.mk (by omega) ?_
    show LoopR _ _ _ _ (Itr 0 d.toNat) H4
    refine for_rng (fun j σ H5 => ∃ (x : Str) (k7 : Option V), σ = s36n a st p n (some (.int i)) (some (.str x)) k7 k8 k9 k10 ∧ (∀ c ∈ x.cps.toList, lowC c) ∧ x.cps.size = j ∧ H5 p = some (.lst (L.map V.str)) ∧ Ctx K H5 a st ∧ SameX st H H5) ⟨"", k7, rfl, (fun _ z => nomatch z), rfl, hL4, c4, e3.trans e4⟩ ?_ ?_
    · rintro j σ H5 hj ⟨x, k7, rfl, hx, lx, hL5, c5, e5⟩
      walk_at "gx"
      refine ⟨a, st, _, rfl, c5, by decide, fun r H6 r0 r1 c6 e6 => ?_⟩
      have r1 : r < 26 := r1
      obtain ⟨r, rfl⟩ := Int.eq_ofNat_of_zero_le r0
      refine Need.mk (by rw [sizeLine_eq]; show 26 ≤ 16777216; decide) ?_
      refine ⟨⟨r + 97, ?_, ?_⟩⟩
      · rw [abc_list]
        refine atI_nat (j := r) ?_
        rw [List.getElem?_map, List.getElem?_range (by omega)]; rfl
      have lx2 : x.length = j := lx
      refine Need.mk (by rw [sizeLine_eq, lx2]; show j + 1 ≤ _; omega) ?_
      have ew : (x ++ (⟨#[r + 97]⟩ : Str)).cps.toList = x.cps.toList ++ [r + 97] := txj_app _ _
      refine ⟨x ++ ⟨#[r + 97]⟩, _, rfl, fun c hc => ?_, ?_, e6 _ _ hL5 pst, c6, e5.trans e6⟩
      · rw [ew] at hc
        rcases List.mem_append.mp hc with hc | hc
        · exact hx c hc
        · rw [List.mem_singleton.mp hc]; unfold lowC; omega
      · rw [← Array.length_toList, ew, List.length_append, Array.length_toList, lx]; rfl
    · rintro σ H5 ⟨x, k7, rfl, hx, lx, hL5, c5, e5⟩
      walk_at "gx"
      refine ⟨a, st, _, rfl, c5, by decide, fun r H6 r0 r1 c6 e6 => ?_⟩
      have r1 : r < 26 := r1
      obtain ⟨r, rfl⟩ := Int.eq_ofNat_of_zero_le r0
      have hL6 := e6 _ _ hL5 pst
      have e56 := e5.trans e6
      have lx7 : x.cps.size ≤ 7 := by omega
      walk_at "gx"
      refine for_rng (fun j σ H7 => ∃ (nm : Str) (k7 k10 : Option V), σ = s36n a st p n (some (.int i)) (some (.str x)) k7 (some (.int r)) (some (.str nm)) k10 ∧ H7 = H6 ∧ ((nm = "" ∧ ∀ g, g < j → x ++ lowL ((r + g) % 26) ∈ L) ∨ (nm ∉ L ∧ ∃ g, g < 26 ∧ nm = x ++ lowL g))) ⟨"", k7, k10, rfl, rfl, .inl ⟨rfl, fun g hg => absurd hg (Nat.not_lt_zero _)⟩⟩ ?_ ?_
      · rintro j σ H7 hj ⟨nm, k7, k10, rfl, rfl, hnm⟩
        walk_at "gx"
        have hj : (j : Int) < 26 := hj
        have eq : ((r : Int) + (j : Int)) % 26 = (((r + j) % 26 : Nat) : Int) := by omega
        refine ⟨⟨(r + j) % 26 + 97, ?_, ?_⟩⟩
        · show atI _ (((r : Int) + (j : Int)) % 26) = _
          rw [eq, abc_list]
          refine atI_nat ?_
          rw [List.getElem?_map, List.getElem?_range (Nat.mod_lt _ (by decide))]; rfl
        have lx2 : x.length ≤ 7 := lx7
        refine Need.mk (by rw [sizeLine_eq]; show x.length + 1 ≤ _; omega) ?_
        walk_at "gx"
        refine ifd (fun h1 => ?_) (fun h1 => ?_)
        · walk_at "gx"
          refine Need.mk ⟨rfl, flat_strs _⟩ ?_
          rw [inV_strs]
          refine ifn (fun h2 => ?_) (fun h2 => ?_)
          · exact ⟨_, _, _, rfl, rfl, .inr ⟨h2, (r + j) % 26, Nat.mod_lt _ (by decide), rfl⟩⟩
          · refine ⟨nm, _, _, rfl, rfl, ?_⟩
            rcases hnm with ⟨e, hall⟩ | hnm
            · refine .inl ⟨e, fun g hg => ?_⟩
              rcases Nat.lt_or_ge g j with hgj | hgj
              · exact hall g hgj
              · have : g = j := by omega
                rw [this]; exact h2
            · exact .inr hnm
        · refine ⟨nm, _, _, rfl, rfl, ?_⟩
          rcases hnm with ⟨e, _⟩ | hnm
          · exact absurd e h1
          · exact .inr hnm
      · rintro σ H7 ⟨nm, k7, k10, rfl, rfl, hnm⟩
        have lm : (L.map V.str).length < sizeLine := by rw [List.length_map, sizeLine_eq]; omega
        have hnm2 : nm ∉ L ∧ ∃ g, g < 26 ∧ nm = x ++ lowL g := by
          rcases hnm with ⟨_, hall⟩ | h
          · obtain ⟨j, hj, hn⟩ := word_new (x := x) (L := L) r (by omega)
            exact absurd (hall j hj) hn
          · exact h
        obtain ⟨hn, g, hg, en⟩ := hnm2
        walk_at "gx"
        refine ⟨L ++ [nm], _, _, _, _, _, _, rfl, by rw [upd_same, List.map_append]; rfl, by rw [List.length_append, lL]; rfl, ?_, fun z hz => ?_, c6.mut hc np, ?_⟩
        · refine List.pairwise_append.mpr ⟨nd, List.pairwise_singleton _ _, fun u hu v hv => ?_⟩
          rw [List.mem_singleton.mp hv]
          exact fun z => hn (z ▸ hu)
        · rcases List.mem_append.mp hz with hz | hz
          · exact ok z hz
          · rw [List.mem_singleton.mp hz, en]; exact word_ok hx lx7 hg
        · intro b o hb hn
          rw [upd_ne (ne_of_none hb np)]
          exact e56 _ _ hb hn
  · rintro σ H3 ⟨L, k5, k6, k7, k8, k9, k10, rfl, hL, lL, nd, ok, c3, e3⟩
    walk_at "gx"
    exact q p L H3 np hL (by omega) nd ok c3 e3
end S
namespace S
open PySem PySem.Spec PyProof.Rows L2
def t_law_b1 (K : Frag) (E : XK) : TS :=
    dIfS (dCmpT (oEq K) (dVar 2) (tC (.int 1))) (tDrop (dML K mApp (dVar 4) (tCons (dTup K (tCons (tOp (oIx K) (dVar 3) (dVar 5)) (tCons (tOp (oAdd K) (tC (.int 1)) (dCall (sp__law_draw K) (EW E) (tCons (dVar 0) (tCons (dVar 1) (tCons (tC (.int 39)) (tNil)))))) (tNil)))) (tNil)))) (tDrop (dML K mApp (dVar 4) (tCons (dTup K (tCons (tOp (oIx K) (dVar 3) (dVar 5)) (tCons (tOp (oAdd K) (tC (.int 1)) (dCall (sp__law_draw K) (EW E) (tCons (dVar 0) (tCons (dVar 1) (tCons (tC (.int 5)) (tNil)))))) (tNil)))) (tNil))))
def t_law_16 (K : Frag) (E : XK) : TS :=
    tRet (dAndV (dCall (sp__law_refused K) (EW E) (tCons (dVar 6) (tCons (dVar 10) (tNil)))) (dCall (sp__law_refused K) (EW E) (tCons (dVar 6) (tCons (tOp (oAdd K) (tOp (oIx K) (dVar 3) (dVar 2)) (tC (.str "x"))) (tNil)))))
def t_law_15 (K : Frag) (E : XK) : TS :=
    tSeq (tAsg (tOp (oIx K) (dLst (tCons (tC (.str "High")) (tCons (tC (.str "LOW")) (tCons (tC (.str "")) (tCons (tC (.str "highlow")) (tCons (tC (.str "down")) (tCons (tC (.str " high")) (tCons (tC (.str "low ")) (tNil))))))))) (dCall (sp__law_draw K) (EW E) (tCons (dVar 0) (tCons (dVar 1) (tCons (tC (.int 7)) (tNil)))))) (gName 10))
    (stop (t_law_16 K E))
def t_law_14 (K : Frag) (E : XK) : TS :=
    tSeq (dIfS (dOr (dNot (dTest K (dCall (sp__law_is_order K) (EW E) (tCons (dVar 9) (tCons (dVar 4) (tCons (tC (.bl false)) (tNil))))))) (dCmpT (oNe K) (dMethDK K "Schema" "reading_order" 1 1 (sp_Schema_reading_order K) (fun vs zs => vs ++ zs) (EW E) (dVar 6) tNil (tCons (tC (.str "low")) (tNil))) (dVar 9))) (tRet (tC (.bl false))) (tNext))
    (stop (t_law_15 K E))
def t_law_13 (K : Frag) (E : XK) : TS :=
    tSeq (tAsg (dMethD K "Schema" "reading_order" (sp_Schema_reading_order K) (EW E) (dVar 6) (tCons (tC (.str "low")) (tNil))) (gName 9))
    (stop (t_law_14 K E))
def t_law_12 (K : Frag) (E : XK) : TS :=
    tSeq (dIfS (dCmpT (oNe K) (dMethD K "Schema" "reading_order" (spD (sp_Schema_reading_order K) [V.str "high"]) (EW E) (dVar 6) tNil) (dVar 8)) (tRet (tC (.bl false))) (tNext))
    (stop (t_law_13 K E))
def t_law_11 (K : Frag) (E : XK) : TS :=
    tSeq (dIfS (dOr (dCmpT (oNe K) (dMethD K "Schema" "reading_order" (sp_Schema_reading_order K) (EW E) (dVar 6) (tCons (tC (.str "high")) (tNil))) (dVar 8)) (dCmpT (oNe K) (dMethDK K "Schema" "reading_order" 1 1 (sp_Schema_reading_order K) (fun vs zs => vs ++ zs) (EW E) (dVar 6) tNil (tCons (tC (.str "high")) (tNil))) (dVar 8))) (tRet (tC (.bl false))) (tNext))
    (stop (t_law_12 K E))
def t_law_10 (K : Frag) (E : XK) : TS :=
    tSeq (tDrop (dML K mApp (dVar 7) (tCons (dTup K (tCons (tC (.str "a")) (tCons (tC (.int 0)) (tNil)))) (tNil))))
    (stop (t_law_11 K E))
def t_law_9 (K : Frag) (E : XK) : TS :=
    tSeq (tDrop (dML K mRev (dVar 7) tNil))
    (stop (t_law_10 K E))
def t_law_8 (K : Frag) (E : XK) : TS :=
    tSeq (tAsg (tCB (cList K) (tCons (dVar 7) (tNil))) (gName 8))
    (stop (t_law_9 K E))
def t_law_7 (K : Frag) (E : XK) : TS :=
    tSeq (dIfS (dNot (dTest K (dCall (sp__law_is_order K) (EW E) (tCons (dVar 7) (tCons (dVar 4) (tCons (tC (.bl true)) (tNil))))))) (tRet (tC (.bl false))) (tNext))
    (stop (t_law_8 K E))
def t_law_6 (K : Frag) (E : XK) : TS :=
    tSeq (tAsg (dMethD K "Schema" "reading_order" (spD (sp_Schema_reading_order K) [V.str "high"]) (EW E) (dVar 6) tNil) (gName 7))
    (stop (t_law_7 K E))
def t_law_5 (K : Frag) (E : XK) : TS :=
    tSeq (tAsg (dGiv (DF K "Schema" [] ["columns"]) (dMake K "Schema" (sp_Schemadd_initdd K) (EW E) (tCons (tCB (cList K) (tCons (dVar 4) (tNil))) (tNil)))) (gName 6))
    (stop (t_law_6 K E))
def t_law_4 (K : Frag) (E : XK) : TS :=
    tSeq (dFor (iRng (tCons (dVar 2) (tNil))) (gName 5) (t_law_b1 K E))
    (stop (t_law_5 K E))
def t_law_3 (K : Frag) (E : XK) : TS :=
    tSeq (tAsg (dLst (tNil)) (gName 4))
    (stop (t_law_4 K E))
def t_law_2 (K : Frag) (E : XK) : TS :=
    tSeq (tAsg (dCall (sp__law_names K) (EW E) (tCons (dVar 0) (tCons (dVar 1) (tCons (tOp (oAdd K) (dVar 2) (tC (.int 1))) (tNil))))) (gName 3))
    (stop (t_law_3 K E))
def t_law_1 (K : Frag) (E : XK) : TS :=
    tSeq (tAsg (dCall (sp__law_draw K) (EW E) (tCons (dVar 0) (tCons (dVar 1) (tCons (tC (.int 7)) (tNil))))) (gName 2))
    (stop (t_law_2 K E))
def t_law (K : Frag) (E : XK) : TS :=
    tSeq (tAsg (dLst (tCons (tC (.int 0)) (tCons (tC (.int 0)) (tCons (tC (.int 0)) (tCons (tC (.int 0)) (tNil)))))) (gName 1))
    (stop (t_law_1 K E))
end S
-- fn: law
-- law: k37
-- deps: _law_is_order _law_refused_k37 _law_names _law_draw D0 D1
namespace S
open PySem PySem.Spec PyProof.Rows L2
theorem dnT {dn : Bool} (h : ("high" : Str) = (if dn then "high" else "low")) : dn = true := by
  cases dn with
  | true => rfl
  | false => exact absurd h (by decide +kernel)
theorem dnF {dn : Bool} (h : ("low" : Str) = (if dn then "high" else "low")) : dn = false := by
  cases dn with
  | false => rfl
  | true => exact absurd h (by decide +kernel)
theorem ord_ok {cs : List Col} {dn : Bool} (h : ∀ c ∈ cs, PyData.strOk c.1 = true) : ∀ e ∈ ordOf cs (plc cs dn), PyData.strOk e.1 = true := fun e he => by
  obtain ⟨c, hc, hce⟩ := ord_mem he
  have ez : e.1 = c.1 := by rcases hce with h | h; exact h.1; exact h.1
  rw [ez]; exact h c hc
section
variable {K : Frag} {E : XK} {Q : VK} {H : Hp} {a st pn pc x : Addr} {n : Int} {L : List Str} {ys : List V} {cs : List Col} {x5 : Option V}
theorem ro_ok {dn : Bool} {w : Str} (hs : Sc K H x cs) (hw : ∀ c ∈ cs, c.2 ≤ 1000) (lc : cs.length ≤ 100) (ew : w = (if dn then "high" else "low")) (q : ∀ (d : Addr) (zs : List V) (H' : Hp), Same H H' → H d = none → H' d = some (.lst zs) → Cols K H' zs (ordOf cs (plc cs dn)) → Q (.ref d) H') : sp_Schema_reading_order K [.ref x, .str w] H Q E := by
  subst ew
  refine ⟨x, cs, _, rfl, hs, hw, lc, fun dn' ew d zs H' e nd hd hC => ?_, fun n1 n2 => ?_⟩
  · have e2 : dn' = dn := by
      cases dn with
      | true => exact dnT ew
      | false => exact dnF ew
    subst e2
    exact q d zs H' e nd hd hC
  · cases dn with
    | true => exact absurd rfl n1
    | false => exact absurd rfl n2
/-- what stands while the law runs -/
structure C37 (K : Frag) (H : Hp) (a st pn pc x : Addr) (n : Int) (L : List Str) (ys : List V) (cs : List Col) : Prop where
  c : Ctx K H a st
  hn : H pn = some (.lst (L.map V.str))
  nl : n < (L.length : Int)
  n0 : 0 ≤ n
  pns : pn ≠ st
  okn : ∀ z ∈ L, nameOk z
  hp : H pc = some (.lst ys)
  hC : Cols K H ys cs
  hs : Sc K H x cs
  hw : ∀ c ∈ cs, c.2 ≤ 1000
  lc : cs.length ≤ 100
theorem C37.same {H' : Hp} (b : C37 K H a st pn pc x n L ys cs) (e : Same H H') : C37 K H' a st pn pc x n L ys cs := ⟨b.c.same e, e _ _ b.hn, b.nl, b.n0, b.pns, b.okn, e _ _ b.hp, b.hC.same e, b.hs.same e, b.hw, b.lc⟩
def s37l (a st pn pc x : Addr) (n : Int) (x5 x7 x8 x9 x10 : Option V) : L2.St := [some (.ref a), some (.ref st), some (.int n), some (.ref pn), some (.ref pc), x5, some (.ref x), x7, x8, x9, x10]
theorem l37_15 {x7 x8 x9 : Option V} (b : C37 K H a st pn pc x n L ys cs) (q : ∀ H', Q (.bl true) H') :
    t_law_15 K E { nx := fun _ H' => Q .non H', rt := Q } (s37l a st pn pc x n x5 x7 x8 x9 none) H := by
  walk_at "gx"
  refine ⟨fun l nl => ?_⟩
  have e1 := same_new (o := .lst [V.str "High", V.str "LOW", V.str "", V.str "highlow", V.str "down", V.str " high", V.str "low "]) nl
  have hl : upd H l (.lst [V.str "High", V.str "LOW", V.str "", V.str "highlow", V.str "down", V.str " high", V.str "low "]) l = some (.lst ((["High", "LOW", "", "highlow", "down", " high", "low "] : List Str).map V.str)) := upd_same
  have b1 := b.same e1
  have lst := ctx_ne b.c nl
  generalize upd H l (.lst [V.str "High", V.str "LOW", V.str "", V.str "highlow", V.str "down", V.str " high", V.str "low "]) = H1 at *
  walk_at "gx"
  refine ⟨a, st, _, rfl, b1.c, by decide, fun r H2 r0 r1 c2 e2 => ?_⟩
  have r1 : r < 7 := r1
  obtain ⟨l1, hst1⟩ := ctx_st b1.c
  have hs2 := b1.hs.x e2 hst1
  have hn2 := e2 _ _ b1.hn b1.pns
  have hl2 := e2 _ _ hl lst
  obtain ⟨g, rfl⟩ := Int.eq_ofNat_of_zero_le r0
  have words : ∀ w ∈ (["High", "LOW", "", "highlow", "down", " high", "low "] : List Str), w ≠ "high" ∧ w ≠ "low" := by decide +kernel
  have hg : g < (["High", "LOW", "", "highlow", "down", " high", "low "] : List Str).length := by show g < 7; omega
  obtain ⟨w, hw⟩ : ∃ w, (["High", "LOW", "", "highlow", "down", " high", "low "] : List Str)[g]? = some w := ⟨_, List.getElem?_eq_getElem hg⟩
  obtain ⟨n1, n2⟩ := words w (List.mem_of_getElem? hw)
  walk_at "gx"
  refine S.At.of (v := .str w) (atI_nat (by rw [List.getElem?_map, hw]; rfl)) ?_
  walk_at "gx"
  refine ⟨x, cs, w, rfl, hs2, b.hw, b.lc, n1, n2, fun H3 e3 => ?_⟩
  have hn3 := e3 _ _ hn2
  obtain ⟨j, rfl⟩ := Int.eq_ofNat_of_zero_le b.n0
  have hj : j < L.length := by have := b.nl; omega
  have hget : L[j]? = some L[j] := List.getElem?_eq_getElem hj
  have ok := b.okn _ (List.mem_of_getElem? hget)
  have lx : (L[j]).length ≤ 8 := ok.2.2
  walk_at "gx"
  refine S.At.of (v := .str L[j]) (atI_nat (j := j) (by rw [List.getElem?_map, hget]; rfl)) ?_
  refine Need.mk (by rw [sizeLine_eq]; show (L[j]).length + 1 ≤ _; omega) ?_
  have ne : ∀ u : Str, u.cps.toList.getLast? ≠ some 120 → L[j] ++ ("x" : Str) ≠ u := fun u hu e => hu (by
    rw [← e, txj_app]
    show (_ ++ [120]).getLast? = _
    rw [List.getLast?_append]; rfl)
  walk_at "gx"
  exact ⟨x, cs, _, rfl, hs2.same e3, b.hw, b.lc, ne _ (by decide), ne _ (by decide), fun H4 e4 => q H4⟩
theorem l37_13 {x7 : Option V} {ag : Addr} {zs : List V} (b : C37 K H a st pn pc x n L ys cs) (hg : H ag = some (.lst zs)) (q : ∀ H', Q (.bl true) H') :
    t_law_13 K E { nx := fun _ H' => Q .non H', rt := Q } (s37l a st pn pc x n x5 x7 (some (.ref ag)) none none) H := by
  have gc := b.hs.2.1
  obtain ⟨_, _, _, dx, u, ws, hx, _, _⟩ := id b.hs
  walk_at "gx"
  refine IsD.of hx ?_
  dsimp only [tCons, tNil, tC]
  refine ro_ok (dn := false) b.hs b.hw b.lc rfl fun d vs H1 e1 nd hd hV => ?_
  have b1 := b.same e1
  walk_at "gx"
  refine ⟨d, pc, vs, ys, cs, false, rfl, hd, hV, b1.hp, b1.hC, gc, by have := b.lc; omega, b.hw, fun H2 e2 => ?_⟩
  have b2 := b1.same e2
  obtain ⟨_, _, _, dx2, u2, ws2, hx2, _, _⟩ := id b2.hs
  walk_at "gx"
  refine IsD.of hx2 ?_
  refine ⟨rfl, rfl, ?_⟩
  refine ro_ok (dn := false) b2.hs b.hw b.lc rfl fun d2 us H3 e3 nd2 hd2 hU => ?_
  have b3 := b2.same e3
  have so : ∀ e ∈ ordOf cs (plc cs false), PyData.strOk e.1 = true := ord_ok gc.ok
  refine eqd_cols (SqL.of hd2) (SqL.of ((e2.trans e3) _ _ hd)) hU (hV.same (e2.trans e3)) so so ?_
  refine ifnf rfl ?_
  exact ⟨l37_15 b3 q⟩
theorem l37_12 {x7 : Option V} {ag : Addr} {zs : List V} (b : C37 K H a st pn pc x n L ys cs) (hg : H ag = some (.lst zs)) (hZ : Cols K H zs (ordOf cs (plc cs true))) (q : ∀ H', Q (.bl true) H') :
    t_law_12 K E { nx := fun _ H' => Q .non H', rt := Q } (s37l a st pn pc x n x5 x7 (some (.ref ag)) none none) H := by
  have gc := b.hs.2.1
  have so : ∀ e ∈ ordOf cs (plc cs true), PyData.strOk e.1 = true := ord_ok gc.ok
  obtain ⟨_, _, _, dx, u, ws, hx, _, _⟩ := id b.hs
  walk_at "gx"
  refine IsD.of hx ?_
  dsimp only [tCons, tNil, tC]
  refine ro_ok (dn := true) b.hs b.hw b.lc rfl fun d vs H1 e1 nd hd hV => ?_
  refine eqd_cols (SqL.of hd) (SqL.of (e1 _ _ hg)) hV (hZ.same e1) so so ?_
  refine ifnf rfl ?_
  exact ⟨l37_13 (b.same e1) (e1 _ _ hg) q⟩
theorem l37_11 {x7 : Option V} {ag : Addr} {zs : List V} (b : C37 K H a st pn pc x n L ys cs) (hg : H ag = some (.lst zs)) (hZ : Cols K H zs (ordOf cs (plc cs true))) (q : ∀ H', Q (.bl true) H') :
    t_law_11 K E { nx := fun _ H' => Q .non H', rt := Q } (s37l a st pn pc x n x5 x7 (some (.ref ag)) none none) H := by
  have gc := b.hs.2.1
  have so : ∀ e ∈ ordOf cs (plc cs true), PyData.strOk e.1 = true := ord_ok gc.ok
  obtain ⟨_, _, _, dx, u, ws, hx, _, _⟩ := id b.hs
  walk_at "gx"
  refine IsD.of hx ?_
  dsimp only [tCons, tNil, tC]
  refine ro_ok (dn := true) b.hs b.hw b.lc rfl fun d vs H1 e1 nd hd hV => ?_
  refine eqd_cols (SqL.of hd) (SqL.of (e1 _ _ hg)) hV (hZ.same e1) so so ?_
  refine ifnf rfl ?_
  have b1 := b.same e1
  obtain ⟨_, _, _, dx1, u1, ws1, hx1, _, _⟩ := id b1.hs
  walk_at "gx"
  refine IsD.of hx1 ?_
  refine ⟨rfl, rfl, ?_⟩
  refine ro_ok (dn := true) b1.hs b.hw b.lc rfl fun d2 us H2 e2 nd2 hd2 hU => ?_
  have e12 := e1.trans e2
  refine eqd_cols (SqL.of hd2) (SqL.of (e12 _ _ hg)) hU (hZ.same e12) so so ?_
  refine ifnf rfl ?_
  exact ⟨l37_12 (b.same e12) (e12 _ _ hg) (hZ.same e12) q⟩
theorem l37_6 (b : C37 K H a st pn pc x n L ys cs) (q : ∀ H', Q (.bl true) H') :
    t_law_6 K E { nx := fun _ H' => Q .non H', rt := Q } (s37l a st pn pc x n x5 none none none none) H := by
  have gc := b.hs.2.1
  obtain ⟨_, _, _, dx, u, ws, hx, _, _⟩ := id b.hs
  walk_at "gx"
  refine IsD.of hx ?_
  dsimp only [tNil]
  show sp_Schema_reading_order K [V.ref x, V.str "high"] H _ _
  refine ro_ok (dn := true) b.hs b.hw b.lc rfl fun d vs H1 e1 nd hd hV => ?_
  have b1 := b.same e1
  walk_at "gx"
  refine ⟨d, pc, vs, ys, cs, true, rfl, hd, hV, b1.hp, b1.hC, gc, by have := b.lc; omega, b.hw, fun H2 e2 => ?_⟩
  have b2 := b1.same e2
  have hd2 := e2 _ _ hd
  have hV2 := hV.same e2
  walk_at "gx"
  refine ⟨fun ag nag => ?_⟩
  have e3 := same_new (o := .lst vs) nag
  have b3 := b2.same e3
  have hg3 : upd H2 ag (.lst vs) ag = some (.lst vs) := upd_same
  have hV3 := hV2.same e3
  have hd3 := e3 _ _ hd2
  have dag : d ≠ ag := ne_of_none hd2 nag
  generalize upd H2 ag (.lst vs) = H3 at *
  have lv : vs.length < sizeLine := by
    rw [← Paired.length hV, sizeLine_eq]
    have l1 := ord_length (cs := cs) (fun c hc => (gc.2 c hc).2) true
    have l2 : ∀ cs : List Col, (∀ c ∈ cs, c.2 ≤ 1000) → (cs.map fun c => c.2 + 1).sum ≤ 1001 * (cs.length : Int) := fun cs h => by
      induction cs with
      | nil => exact Int.le_refl _
      | cons c cs ih =>
        have := ih fun d hd => h d (List.mem_cons_of_mem _ hd)
        have := h c (List.mem_cons_self ..)
        rw [List.map_cons, List.sum_cons, List.length_cons]
        omega
    have := l2 cs b.hw
    have := b.lc
    omega
  have lr : vs.reverse.length < sizeLine := by rw [List.length_reverse]; exact lv
  walk_at "gx"
  refine ⟨fun t H4 e4 ht => ?_⟩
  have ex1 : SameX d H3 (L2.upd H3 d (.lst vs.reverse)) := SameX.upd
  have hdr := e4 _ _ (upd_same : L2.upd H3 d (.lst vs.reverse) d = _)
  have ea := Same.mut (((e1.trans e2).trans e3)) (o := .lst vs.reverse) nd
  have eb := Same.mut (ea.trans e4) (o := .lst (vs.reverse ++ [V.ref t])) nd
  have ex5 : SameX d H4 (L2.upd H4 d (.lst (vs.reverse ++ [V.ref t]))) := SameX.upd
  have hg5 := ex5 _ _ (e4 _ _ (ex1 _ _ hg3 (Ne.symm dag))) (Ne.symm dag)
  have hV5 := ((hV3.x ex1 hd3).same e4).x ex5 hdr
  walk_at "go"
  exact ⟨l37_11 (b.same eb) hg5 hV5 q⟩
end
theorem pure_law {K : Frag} (vs : List V) (H : Hp) (Q : VK) (E : XK) (h : sp_law K vs H Q E) : t_law K E { nx := fun _ H' => Q .non H', rt := Q } (start ["_law_script", "_law_state", "_law_count", "_law_names_here", "_law_columns", "_law_k", "_law_schema", "_law_first", "_law_again", "_law_low", "_law_word"] vs) H := by
  obtain ⟨a, ns, rfl, hs, q⟩ := h
  walk_at "gx"
  refine ⟨fun st nst => ?_⟩
  have c1 : Ctx K (upd H st (.lst [.int 0, .int 0, .int 0, .int 0])) a st := ctx0 hs nst _ ⟨0, 0, 0, 0, rfl, by decide, by decide, .inl rfl⟩
  walk_at "gx"
  refine ⟨a, st, _, rfl, c1, by decide, fun n H1 n0 n1 c2 e1 => ?_⟩
  have n1 : n < 7 := n1
  walk_at "gx"
  refine ⟨a, st, _, rfl, c2, by omega, by omega, fun pn L H2 npn hn lL nd okn c3 e2 => ?_⟩
  have lL : (L.length : Int) = n + 1 := lL
  have pnst := ctx_ne c2 npn
  walk_at "gx"
  refine ⟨fun pc npc => ?_⟩
  have e3 := same_new (o := .lst ([] : List V)) npc
  have pcst := ctx_ne c3 npc
  have pnc : pn ≠ pc := ne_of_none hn npc
  have c4 := c3.same e3
  have hn3 := e3 _ _ hn
  have hc3 : upd H2 pc (.lst ([] : List V)) pc = some (.lst []) := upd_same
  generalize upd H2 pc (.lst ([] : List V)) = H3 at *
  walk_at "gx"
  refine for_rng (fun i σ H4 => ∃ (zs : List V) (cs : List Col) (x5 : Option V), σ = [some (.ref a), some (.ref st), some (.int n), some (.ref pn), some (.ref pc), x5, none, none, none, none, none] ∧ H4 pc = some (.lst zs) ∧ Cols K H4 zs cs ∧ cs.length = i ∧ (∀ (j : Nat) c, cs[j]? = some c → L[j]? = some c.1 ∧ 1 ≤ c.2 ∧ c.2 ≤ 39) ∧ H4 pn = some (.lst (L.map V.str)) ∧ Ctx K H4 a st) ⟨[], [], none, rfl, hc3, .nil, rfl, fun _ _ z => by simp at z, hn3, c4⟩ ?_ ?_
  · rintro i σ H4 hi ⟨zs, cs, x5, rfl, hz, hC, lcs, hcs, hn4, c4⟩
    have hiL : i < L.length := by omega
    have hget : L[i]? = some L[i] := List.getElem?_eq_getElem hiL
    obtain ⟨l4, hst4⟩ := ctx_st c4
    have lz : zs.length < sizeLine := by rw [← Paired.length hC, sizeLine_eq]; omega
    walk_at "gx"
    refine ifd (fun h => ?_) (fun h => ?_)
    · walk_at "gx"
      refine S.At.of (v := .str L[i]) (atI_nat (j := i) (by rw [List.getElem?_map, hget]; rfl)) ?_
      refine ⟨a, st, _, rfl, c4, by decide, fun w H5 w0 w1 c5 e5 => ?_⟩
      have w1 : w < 39 := w1
      have hz5 := e5 _ _ hz pcst
      have hn5 := e5 _ _ hn4 pnst
      have hC5 := hC.x e5 hst4
      walk_at "gx"
      refine ⟨fun t H6 e6 ht => ?_⟩
      have hz6 := e6 _ _ hz5
      have ex : SameX pc H6 (L2.upd H6 pc (.lst (zs ++ [V.ref t]))) := SameX.upd
      walk_at "gx"
      refine ⟨zs ++ [V.ref t], cs ++ [(L[i], 1 + w)], _, rfl, upd_same, cols_snoc ((hC5.same e6).x ex hz6) ⟨t, rfl, ex.tup ht hz6⟩, by rw [List.length_append, lcs]; rfl, fun j c hjc => ?_, ex _ _ (e6 _ _ hn5) pnc, (c5.same e6).mut c3 npc⟩
      rcases Nat.lt_or_ge j cs.length with hj | hj
      · rw [List.getElem?_append_left hj] at hjc
        exact hcs j c hjc
      · rw [List.getElem?_append_right hj] at hjc
        have : j = i := by
          have := (List.getElem?_eq_some_iff.mp hjc).1
          rw [List.length_singleton] at this
          omega
        subst this
        rw [lcs, Nat.sub_self, List.getElem?_cons_zero] at hjc
        injection hjc with hjc
        rw [← hjc]
        exact ⟨hget, by show (1 : Int) ≤ 1 + w; omega, by show 1 + w ≤ 39; omega⟩
    · walk_at "gx"
      refine S.At.of (v := .str L[i]) (atI_nat (j := i) (by rw [List.getElem?_map, hget]; rfl)) ?_
      refine ⟨a, st, _, rfl, c4, by decide, fun w H5 w0 w1 c5 e5 => ?_⟩
      have w1 : w < 5 := w1
      have hz5 := e5 _ _ hz pcst
      have hn5 := e5 _ _ hn4 pnst
      have hC5 := hC.x e5 hst4
      walk_at "gx"
      refine ⟨fun t H6 e6 ht => ?_⟩
      have hz6 := e6 _ _ hz5
      have ex : SameX pc H6 (L2.upd H6 pc (.lst (zs ++ [V.ref t]))) := SameX.upd
      walk_at "gx"
      refine ⟨zs ++ [V.ref t], cs ++ [(L[i], 1 + w)], _, rfl, upd_same, cols_snoc ((hC5.same e6).x ex hz6) ⟨t, rfl, ex.tup ht hz6⟩, by rw [List.length_append, lcs]; rfl, fun j c hjc => ?_, ex _ _ (e6 _ _ hn5) pnc, (c5.same e6).mut c3 npc⟩
      rcases Nat.lt_or_ge j cs.length with hj | hj
      · rw [List.getElem?_append_left hj] at hjc
        exact hcs j c hjc
      · rw [List.getElem?_append_right hj] at hjc
        have : j = i := by
          have := (List.getElem?_eq_some_iff.mp hjc).1
          rw [List.length_singleton] at this
          omega
        subst this
        rw [lcs, Nat.sub_self, List.getElem?_cons_zero] at hjc
        injection hjc with hjc
        rw [← hjc]
        exact ⟨hget, by show (1 : Int) ≤ 1 + w; omega, by show 1 + w ≤ 39; omega⟩
  · rintro σ H4 ⟨zs, cs, x5, rfl, hz, hC, lcs, hcs, hn4, c4⟩
    have lcs : (cs.length : Int) = n := by omega
    have okc : ∀ c ∈ cs, nameOk c.1 ∧ c.2 ≤ 1000 := fun c hc => by
      obtain ⟨j, hj⟩ := List.mem_iff_getElem?.mp hc
      obtain ⟨h1, h2, h3⟩ := hcs j c hj
      exact ⟨okn _ (List.mem_of_getElem? h1), by omega⟩
    have okc : ∀ c ∈ cs, nameOk c.1 ∧ 1 ≤ c.2 ∧ c.2 ≤ 1000 := fun c hc => by
      obtain ⟨j, hj⟩ := List.mem_iff_getElem?.mp hc
      obtain ⟨h1, h2, h3⟩ := hcs j c hj
      exact ⟨okn _ (List.mem_of_getElem? h1), h2, by omega⟩
    have gc : goodC cs := by
      refine ⟨List.pairwise_iff_getElem.mpr fun i j hi hj hij e => ?_, fun c hc => ⟨(okc c hc).1, (okc c hc).2.1⟩⟩
      rw [List.length_map] at hi hj
      rw [List.getElem_map, List.getElem_map] at e
      have h1 := (hcs i cs[i] (List.getElem?_eq_getElem hi)).1
      have h2 := (hcs j cs[j] (List.getElem?_eq_getElem hj)).1
      obtain ⟨l1, g1⟩ := List.getElem?_eq_some_iff.mp h1
      obtain ⟨l2, g2⟩ := List.getElem?_eq_some_iff.mp h2
      exact List.pairwise_iff_getElem.mp nd i j l1 l2 hij (by rw [g1, g2]; exact e)
    walk_at "gx"
    refine fun sf => ?_
    walk_at "gx"
    refine ⟨fun g ng => ?_⟩
    have e5 := same_new (o := .lst zs) ng
    dsimp only [tNil]
    refine mk_schema sf (.inl (SqL.of upd_same)) (hC.same e5) (by omega) (fun c hc => by have := (okc c hc).1.2.2; omega) (fun _ x H6 e6 _ hx => ?_) (fun nb => absurd gc nb)
    have e56 := e5.trans e6
    refine ⟨l37_6 (L := L) ⟨c4.same e56, e56 _ _ hn4, by omega, n0, pnst, okn, e56 _ _ hz, hC.same e56, hx, fun c hc => (okc c hc).2.2, by omega⟩ q⟩
end S
namespace S
open PySem PySem.Spec PyProof.Rows L2
theorem sc__law_draw : FnScope ["_law_script", "_law_state", "_law_base", "_law_here", "_law_number", "_law_digit", "_law_mixed"] ["_law_script", "_law_state", "_law_base"] (defScope s__law_draw) := ⟨rfl, rfl, rfl, by decide +kernel, rfl, by decide +kernel, by decide +kernel⟩
theorem sc__law_names : FnScope ["_law_script", "_law_state", "_law_count", "_law_letters", "_law_names_here", "_law_k", "_law_head", "_law_j", "_law_tail", "_law_name", "_law_word"] ["_law_script", "_law_state", "_law_count"] (defScope s__law_names) := ⟨rfl, rfl, rfl, by decide +kernel, rfl, by decide +kernel, by decide +kernel⟩
theorem sc_is_name : FnScope ["text", "char"] ["text"] (defScope s_is_name) := ⟨rfl, rfl, rfl, by decide +kernel, rfl, by decide +kernel, by decide +kernel⟩
theorem sc_Schemadd_initdd : FnScope ["self", "columns", "kept", "names", "name", "width"] ["self", "columns"] (defScope s_Schemadd_initdd) := ⟨rfl, rfl, rfl, by decide +kernel, rfl, by decide +kernel, by decide +kernel⟩
theorem sc_Schema_reading_order : FnScope ["self", "first", "places", "order", "place", "_", "width", "name"] ["self", "first"] (defScope s_Schema_reading_order) := ⟨rfl, rfl, rfl, by decide +kernel, rfl, by decide +kernel, by decide +kernel⟩
theorem sc__law_is_number : FnScope ["_law_x"] ["_law_x"] (defScope s__law_is_number) := ⟨rfl, rfl, rfl, by decide +kernel, rfl, by decide +kernel, by decide +kernel⟩
theorem sc__law_index_of : FnScope ["_law_columns", "_law_name", "_law_k"] ["_law_columns", "_law_name"] (defScope s__law_index_of) := ⟨rfl, rfl, rfl, by decide +kernel, rfl, by decide +kernel, by decide +kernel⟩
theorem sc__law_is_order : FnScope ["_law_told", "_law_columns", "_law_down", "_law_last", "_law_piece", "_law_index", "_law_rank", "_law_pair"] ["_law_told", "_law_columns", "_law_down"] (defScope s__law_is_order) := ⟨rfl, rfl, rfl, by decide +kernel, rfl, by decide +kernel, by decide +kernel⟩
theorem sc__law_refused : FnScope ["_law_schema", "_law_word", "_law_told", "e"] ["_law_schema", "_law_word"] (defScope s__law_refused) := ⟨rfl, rfl, rfl, by decide +kernel, rfl, by decide +kernel, by decide +kernel⟩
theorem sc_law : FnScope ["_law_script", "_law_state", "_law_count", "_law_names_here", "_law_columns", "_law_k", "_law_schema", "_law_first", "_law_again", "_law_low", "_law_word"] ["_law_script"] (defScope s_law) := ⟨rfl, rfl, rfl, by decide +kernel, rfl, by decide +kernel, by decide +kernel⟩
structure T0 (P : Program) (K : Frag) (mg : Str → Option Value) : Prop where
  n_ValueError : mg "ValueError" = none
  n_abs : mg "abs" = none
  n_bool : mg "bool" = none
  n_int : mg "int" = none
  n_isinstance : mg "isinstance" = none
  n_len : mg "len" = none
  n_list : mg "list" = none
  n_max : mg "max" = none
  n_range : mg "range" = none
  n_str : mg "str" = none
  n_sum : mg "sum" = none
  n_tuple : mg "tuple" = none
  g_BadOrder : mg "BadOrder" = some (.ref (He.ga K "BadOrder"))
  g_BadSchema : mg "BadSchema" = some (.ref (He.ga K "BadSchema"))
  g_Schema : mg "Schema" = some (.ref (He.ga K "Schema"))
  g_SliceError : mg "SliceError" = some (.ref (He.ga K "SliceError"))
  g__law_draw : mg "_law_draw" = some (.ref (He.ga K "_law_draw"))
  g__law_index_of : mg "_law_index_of" = some (.ref (He.ga K "_law_index_of"))
  g__law_is_number : mg "_law_is_number" = some (.ref (He.ga K "_law_is_number"))
  g__law_is_order : mg "_law_is_order" = some (.ref (He.ga K "_law_is_order"))
  g__law_names : mg "_law_names" = some (.ref (He.ga K "_law_names"))
  g__law_refused : mg "_law_refused" = some (.ref (He.ga K "_law_refused"))
  g_is_name : mg "is_name" = some (.ref (He.ga K "is_name"))
  g_law : mg "law" = some (.ref (He.ga K "law"))
  F__law_draw : ∃ fd, FunD K "_law_draw" "_law_draw" (defArgs s__law_draw) (defBody s__law_draw) (defScope s__law_draw) [] [] (He.fAd K ("_law_draw", none)) fd
  k__law_draw : PySem.W.keepIn K (.ref (He.fAd K ("_law_draw", none))) = true
  F__law_names : ∃ fd, FunD K "_law_names" "_law_names" (defArgs s__law_names) (defBody s__law_names) (defScope s__law_names) [] [] (He.fAd K ("_law_names", none)) fd
  k__law_names : PySem.W.keepIn K (.ref (He.fAd K ("_law_names", none))) = true
  F_is_name : ∃ fd, FunD K "is_name" "is_name" (defArgs s_is_name) (defBody s_is_name) (defScope s_is_name) [] [] (He.fAd K ("is_name", none)) fd
  k_is_name : PySem.W.keepIn K (.ref (He.fAd K ("is_name", none))) = true
  F_Schemadd_initdd : ∃ fd, FunD K "__init__" "Schema.__init__" (defArgs s_Schemadd_initdd) (defBody s_Schemadd_initdd) (defScope s_Schemadd_initdd) [] [] (He.fAd K ("Schema", some "__init__")) fd
  k_Schemadd_initdd : PySem.W.keepIn K (.ref (He.fAd K ("Schema", some "__init__"))) = true
  F_Schema_reading_order : ∃ fd, FunD K "reading_order" "Schema.reading_order" (defArgs s_Schema_reading_order) (defBody s_Schema_reading_order) (defScope s_Schema_reading_order) [V.str "high"] [] (He.fAd K ("Schema", some "reading_order")) fd
  k_Schema_reading_order : PySem.W.keepIn K (.ref (He.fAd K ("Schema", some "reading_order"))) = true
  F__law_is_number : ∃ fd, FunD K "_law_is_number" "_law_is_number" (defArgs s__law_is_number) (defBody s__law_is_number) (defScope s__law_is_number) [] [] (He.fAd K ("_law_is_number", none)) fd
  k__law_is_number : PySem.W.keepIn K (.ref (He.fAd K ("_law_is_number", none))) = true
  F__law_index_of : ∃ fd, FunD K "_law_index_of" "_law_index_of" (defArgs s__law_index_of) (defBody s__law_index_of) (defScope s__law_index_of) [] [] (He.fAd K ("_law_index_of", none)) fd
  k__law_index_of : PySem.W.keepIn K (.ref (He.fAd K ("_law_index_of", none))) = true
  F__law_is_order : ∃ fd, FunD K "_law_is_order" "_law_is_order" (defArgs s__law_is_order) (defBody s__law_is_order) (defScope s__law_is_order) [] [] (He.fAd K ("_law_is_order", none)) fd
  k__law_is_order : PySem.W.keepIn K (.ref (He.fAd K ("_law_is_order", none))) = true
  F__law_refused : ∃ fd, FunD K "_law_refused" "_law_refused" (defArgs s__law_refused) (defBody s__law_refused) (defScope s__law_refused) [] [] (He.fAd K ("_law_refused", none)) fd
  k__law_refused : PySem.W.keepIn K (.ref (He.fAd K ("_law_refused", none))) = true
  F_law : ∃ fd, FunD K "law" "law" (defArgs s_law) (defBody s_law) (defScope s_law) [] [] (He.fAd K ("law", none)) fd
  k_law : PySem.W.keepIn K (.ref (He.fAd K ("law", none))) = true
  D_Schema : DF K "Schema" [] ["columns"]
  K_Schema : Mk K (He.ga K "Schema") (He.fAd K ("Schema", some "__init__"))
  M_Schema_reading_order : Meth K (He.ga K "Schema") "reading_order" (He.fAd K ("Schema", some "reading_order"))
  R_BadOrder : RsF K "BadOrder"
  R_BadSchema : RsF K "BadSchema"
  X_BadOrder : ExF K "BadOrder" ["SliceError"]
  X_BadSchema : ExF K "BadSchema" ["SliceError"]
  X_SliceError : ExF K "SliceError" []
  Z_LETTERS : ∃ t, mg "LETTERS" = some (.str "abcdefghijklmnopqrstuvwxyz" t)
  Z_LONGEST : ∃ t, mg "LONGEST" = some (.int 8 t)
section
variable {P : Program} {w : World} {K : Frag} {mg : Str → Option Value} {base : Heap}
theorem ok__law_draw (T : T0 P K mg) : FR P w K mg base 1 (He.fAd K ("_law_draw", none)) (sp__law_draw K) := by
  obtain ⟨fd, F⟩ := T.F__law_draw
  refine mk_fn F sc__law_draw (fun vs H Q E h => by
    revert h; intro h; (repeat (first | (obtain ⟨rfl, _⟩ := h; exact rfl) | obtain ⟨_, h⟩ := h))) (fun _ _ _ _ _ _ us hl => match us, hl with | [_, _, _], _ => rfl) (t := t__law_draw K) (fun cdv A outer s H E hr => ?_) (fun vs H Q E h => pure__law_draw vs H Q E h)
  exact pss_cons (ps_if (pt_cmp (o_eq hr.units) (pe_ix ix_any (pv 1) (pe_int) (fun _ _ => rfl)) (pe_int) (nomark _)) (pss_cons (ps_set (i := 3) sc__law_draw.nd rfl (Or.inl rfl) (pe_ix ix_any (pv 1) (pe_int) (fun _ _ => rfl)))
    (pss_cons (ps_asg (pe_op o_add (pv 3) (pe_int)) (pg_sub (pv 1) (pe_int) s_list))
    (pss_cons (ps_if (pt_cmp o_ge (pv 3) (pe_cb c_len T.n_len (by decide +kernel) (pa_cons (pv 0) (pa_nil))) (nomark _)) (pss_one (ps_ret (pe_int))) (pss_nil))
    (pss_cons (ps_asg (pe_cb c_abs T.n_abs (by decide +kernel) (pa_cons (pe_ix ix_any (pv 0) (pv 3) (fun _ _ => rfl)) (pa_nil))) (pg_sub (pv 1) (pe_int) s_list))
    (pss_cons (ps_asg (pe_ct c_int T.n_int (by decide +kernel) (pa_cons (pe_cmp o_lt (pe_ix ix_any (pv 0) (pv 3) (fun _ _ => rfl)) (pe_int) (nomark _)) (pa_nil))) (pg_sub (pv 1) (pe_int) s_list))
    (pss_cons (ps_asg (pe_int) (pg_sub (pv 1) (pe_int) s_list))
    (pss_one (ps_if (pt_cmp o_ge (pe_ix ix_any (pv 1) (pe_int) (fun _ _ => rfl)) (pe_op o_pow (pe_int) (pe_int)) (nomark _)) (pss_cons (ps_asg (pe_int) (pg_sub (pv 1) (pe_int) s_list))
    (pss_one (ps_asg (pe_int) (pg_sub (pv 1) (pe_int) s_list)))) (pss_nil))))))))) (pss_nil))
    (pss_stop (pss_cons (ps_asg (pe_op o_sub (pe_ix ix_any (pv 1) (pe_int) (fun _ _ => rfl)) (pe_int)) (pg_sub (pv 1) (pe_int) s_list))
    (pss_stop (pss_cons (ps_set (i := 4) sc__law_draw.nd rfl (Or.inl rfl) (pe_ct c_int T.n_int (by decide +kernel) (pa_cons (pe_ix ix_any (pv 1) (pe_int) (fun _ _ => rfl)) (pa_nil))))
    (pss_stop (pss_cons (ps_if (pt_cmp (o_eq hr.units) (pe_ix ix_any (pv 1) (pe_int) (fun _ _ => rfl)) (pe_int) (nomark _)) (pss_cons (ps_asg (pe_op o_fdiv (pv 4) (pe_int)) (pg_sub (pv 1) (pe_int) s_list))
    (pss_cons (ps_if (pt_cmp (o_eq hr.units) (pe_ix ix_any (pv 1) (pe_int) (fun _ _ => rfl)) (pe_int) (nomark _)) (pss_one (ps_asg (pe_int) (pg_sub (pv 1) (pe_int) s_list))) (pss_nil))
    (pss_cons (ps_set (i := 5) sc__law_draw.nd rfl (Or.inl rfl) (pe_op o_mod (pe_ct c_int T.n_int (by decide +kernel) (pa_cons (pv 4) (pa_nil))) (pe_int)))
    (pss_one (ps_ret (pe_op o_mod (pe_ct c_int T.n_int (by decide +kernel) (pa_cons (pv 5) (pa_nil))) (pv 2))))))) (pss_nil))
    (pss_stop (pss_cons (ps_set (i := 6) sc__law_draw.nd rfl (Or.inl rfl) (pe_op o_mod (pe_ct c_int T.n_int (by decide +kernel) (pa_cons (pe_op o_add (pe_op o_mulA (pv 4) (pe_op o_add (pe_op o_add (pe_int) (pe_op o_mulA (pe_int) (pe_ix ix_any (pv 1) (pe_int) (fun _ _ => rfl)))) (pe_op o_mulA (pe_int) (pe_ix ix_any (pv 1) (pe_int) (fun _ _ => rfl))))) (pe_op o_mulA (pe_int) (pe_ix ix_any (pv 1) (pe_int) (fun _ _ => rfl)))) (pa_nil))) (pe_int)))
    (pss_stop (pss_cons (ps_set (i := 6) sc__law_draw.nd rfl (Or.inl rfl) (pe_op o_mod (pe_ct c_int T.n_int (by decide +kernel) (pa_cons (pe_op o_add (pe_op o_mulA (pv 6) (pv 6)) (pv 4)) (pa_nil))) (pe_int)))
    (pss_stop (pss_cons (ps_set (i := 6) sc__law_draw.nd rfl (Or.inl rfl) (pe_op o_mod (pe_ct c_int T.n_int (by decide +kernel) (pa_cons (pe_op o_mulA (pv 6) (pv 6)) (pa_nil))) (pe_int)))
    (pss_stop (pss_one (ps_ret (pe_op o_mod (pe_ct c_int T.n_int (by decide +kernel) (pa_cons (pv 6) (pa_nil))) (pv 2)))))))))))))))))
theorem ok__law_names (T : T0 P K mg) : FR P w K mg base 2 (He.fAd K ("_law_names", none)) (sp__law_names K) := by
  obtain ⟨fd, F⟩ := T.F__law_names
  have G__law_draw := ok__law_draw (P := P) (w := w) (base := base) T
  refine mk_fn F sc__law_names (fun vs H Q E h => by
    revert h; intro h; (repeat (first | (obtain ⟨rfl, _⟩ := h; exact rfl) | obtain ⟨_, h⟩ := h))) (fun _ _ _ _ _ _ us hl => match us, hl with | [_, _, _], _ => rfl) (t := t__law_names K) (fun cdv A outer s H E hr => ?_) (fun vs H Q E h => pure__law_names vs H Q E h)
  exact pss_cons (ps_set (i := 3) sc__law_names.nd rfl (Or.inl rfl) (pe_str))
    (pss_stop (pss_cons (ps_set (i := 4) sc__law_names.nd rfl (Or.inl rfl) (pe_lst (pa_nil)))
    (pss_stop (pss_cons (ps_for ownD rfl (pi_rng (by rfl) T.n_range (pa_cons (pv 2) (pa_nil))) (pg_name (i := 5) sc__law_names.nd rfl (Or.inl rfl)) (pss_cons (ps_set (i := 6) sc__law_names.nd rfl (Or.inl rfl) (pe_str))
    (pss_stop (pss_cons (ps_for ownD rfl (pi_rng (by rfl) T.n_range (pa_cons (pe_call (G__law_draw) (hr.mono (by decide)) T.g__law_draw T.k__law_draw passD (pa_cons (pv 0) (pa_cons (pv 1) (pa_cons (pe_int) (pa_nil))))) (pa_nil))) (pg_name (i := 7) sc__law_names.nd rfl (Or.inl rfl)) (pss_one (ps_set (i := 6) sc__law_names.nd rfl (Or.inl rfl) (pe_op o_add (pv 6) (pe_ix ix_any (pv 3) (pe_call (G__law_draw) (hr.mono (by decide)) T.g__law_draw T.k__law_draw passD (pa_cons (pv 0) (pa_cons (pv 1) (pa_cons (pe_int) (pa_nil))))) (fun _ _ => rfl))))))
    (pss_stop (pss_cons (ps_set (i := 8) sc__law_names.nd rfl (Or.inl rfl) (pe_call (G__law_draw) (hr.mono (by decide)) T.g__law_draw T.k__law_draw passD (pa_cons (pv 0) (pa_cons (pv 1) (pa_cons (pe_int) (pa_nil))))))
    (pss_stop (pss_cons (ps_set (i := 9) sc__law_names.nd rfl (Or.inl rfl) (pe_str))
    (pss_stop (pss_cons (ps_for ownD rfl (pi_rng (by rfl) T.n_range (pa_cons (pe_int) (pa_nil))) (pg_name (i := 7) sc__law_names.nd rfl (Or.inl rfl)) (pss_cons (ps_set (i := 10) sc__law_names.nd rfl (Or.inl rfl) (pe_op o_add (pv 6) (pe_ix ix_any (pv 3) (pe_op o_mod (pe_ct c_int T.n_int (by decide +kernel) (pa_cons (pe_op o_add (pv 8) (pv 7)) (pa_nil))) (pe_int)) (fun _ _ => rfl))))
    (pss_stop (pss_one (ps_if (PW.pt (pw_and (pt_cmp (o_eq hr.units) (pv 9) (pe_str) (nomark _)) (pw_and1 (pt_cmp o_nin (pv 10) (pv 4) (by rfl))))) (pss_one (ps_set (i := 9) sc__law_names.nd rfl (Or.inl rfl) (pv 10))) (pss_nil))))))
    (pss_stop (pss_one (ps_expr (pe_ml PySem.F.slot_list_append PySem.F.type_list_append m_app (pv 4) (pa_cons (pv 9) (pa_nil))))))))))))))))
    (pss_stop (pss_one (ps_ret (pv 4))))))))
theorem ok_is_name (T : T0 P K mg) : FR P w K mg base 1 (He.fAd K ("is_name", none)) (sp_is_name K) := by
  obtain ⟨fd, F⟩ := T.F_is_name
  refine mk_fn F sc_is_name (fun vs H Q E h => by
    revert h; intro h; (repeat (first | (obtain ⟨rfl, _⟩ := h; exact rfl) | obtain ⟨_, h⟩ := h))) (fun _ _ _ _ _ _ us hl => match us, hl with | [_], _ => rfl) (t := t_is_name K) (fun cdv A outer s H E hr => ?_) (fun vs H Q E h => pure_is_name vs H Q E h)
  exact pss_cons (ps_for ownD rfl (pi_txt (pv 0)) (pg_name (i := 1) sc_is_name.nd rfl (Or.inl rfl)) (pss_one (ps_if (pt_cmp op_ninT (pv 1) (pe_gstr (by rfl) T.Z_LETTERS) (by rfl)) (pss_one (ps_ret (pe_bl))) (pss_nil))))
    (pss_stop (pss_one (ps_ret (pe_chain o_le o_le (pe_int) (pe_cb c_len T.n_len (by decide +kernel) (pa_cons (pv 0) (pa_nil))) (pe_gint (by rfl) T.Z_LONGEST)))))
theorem ok_Schemadd_initdd (T : T0 P K mg) : FR P w K mg base 2 (He.fAd K ("Schema", some "__init__")) (sp_Schemadd_initdd K) := by
  obtain ⟨fd, F⟩ := T.F_Schemadd_initdd
  have G_is_name := ok_is_name (P := P) (w := w) (base := base) T
  refine mk_fn F sc_Schemadd_initdd (fun vs H Q E h => by
    revert h; intro h; (repeat (first | (obtain ⟨rfl, _⟩ := h; exact rfl) | obtain ⟨_, h⟩ := h))) (fun _ _ _ _ _ _ us hl => match us, hl with | [_, _], _ => rfl) (t := t_Schemadd_initdd K) (fun cdv A outer s H E hr => ?_) (fun vs H Q E h => pure_Schemadd_initdd vs H Q E h)
  exact pss_cons (ps_set (i := 2) sc_Schemadd_initdd.nd rfl (Or.inl rfl) (pe_lst (pa_nil)))
    (pss_stop (pss_cons (ps_set (i := 3) sc_Schemadd_initdd.nd rfl (Or.inl rfl) (pe_lst (pa_nil)))
    (pss_stop (pss_cons (ps_for ownD rfl (pi_seq (pv 1)) (pg_tup rfl (pgs_cons (pg_name (i := 4) sc_Schemadd_initdd.nd rfl (Or.inl rfl)) (pgs_cons (pg_name (i := 5) sc_Schemadd_initdd.nd rfl (Or.inl rfl)) (pgs_nil)))) (pss_cons (ps_if (PW.pt (pw_or (pt_not (pt_of (pe_call (G_is_name) (hr.mono (by decide)) T.g_is_name T.k_is_name passD (pa_cons (pv 4) (pa_nil))))) (pw_or (pt_cmp o_in (pv 4) (pv 3) (by rfl)) (pw_or1 (pt_cmp o_lt (pv 5) (pe_int) (nomark _)))))) (pss_one (ps_giv T.X_BadSchema (ps_rs takesD T.R_BadSchema T.g_BadSchema))) (pss_nil))
    (pss_stop (pss_cons (ps_expr (pe_ml PySem.F.slot_list_append PySem.F.type_list_append m_app (pv 3) (pa_cons (pv 4) (pa_nil))))
    (pss_stop (pss_one (ps_expr (pe_ml PySem.F.slot_list_append PySem.F.type_list_append m_app (pv 2) (pa_cons (pe_tup (pa_cons (pv 4) (pa_cons (pv 5) (pa_nil)))) (pa_nil))))))))))
    (pss_stop (pss_one (ps_sto (pe_ct c_tuple T.n_tuple (by decide +kernel) (pa_cons (pv 2) (pa_nil))) (pv 0))))))))
theorem okd_Schema_reading_order (T : T0 P K mg) {fd : FuncData} (F : FunD K "reading_order" "Schema.reading_order" (defArgs s_Schema_reading_order) (defBody s_Schema_reading_order) (defScope s_Schema_reading_order) [V.str "high"] [] (He.fAd K ("Schema", some "reading_order")) fd) {ex : List V} (hb : ∃ ds, Vals ex ds ∧ Binds K fd ["self", "first"] ds) : FR P w K mg base 1 (He.fAd K ("Schema", some "reading_order")) (spD (sp_Schema_reading_order K) ex) := by
  refine mk_fnD F sc_Schema_reading_order (fun vs H Q E h => by
    revert h; intro h; (repeat (first | (obtain ⟨rfl, _⟩ := h; exact rfl) | obtain ⟨_, h⟩ := h))) hb (t := t_Schema_reading_order K) (fun cdv A outer s H E hr => ?_) (fun vs H Q E h => pure_Schema_reading_order vs H Q E h)
  exact pss_cons (ps_if (pt_cmp o_nin (pv 1) (pe_tup (pa_cons (pe_str) (pa_cons (pe_str) (pa_nil)))) (by rfl)) (pss_one (ps_giv T.X_BadOrder (ps_rs takesD T.R_BadOrder T.g_BadOrder))) (pss_nil))
    (pss_stop (pss_cons (ps_set (i := 2) sc_Schema_reading_order.nd rfl (Or.inl rfl) (pe_lstR1 rfl T.n_list T.n_range (pe_callBK (c_maxD rfl hr.units) (by rfl) T.n_max (by decide +kernel) (pa_cons (pe_lc (own := [("_", 5), ("width", 6)]) rfl sc_Schema_reading_order.nd (pi_seq (pe_at (pv 0))) (blkOk_by (own := [("_", 5), ("width", 6)]) (N := ["self", "first", "places", "order", "place", "_", "width", "name"]) (sc := defScope s_Schema_reading_order) (by decide +kernel)) (fun _ _ _ _ _ => pg_tup rfl (pgs_cons (pg_name (i := 5) sc_Schema_reading_order.nd rfl (Or.inl rfl)) (pgs_cons (pg_name (i := 6) sc_Schema_reading_order.nd rfl (Or.inl rfl)) (pgs_nil)))) (fun _ _ _ _ _ => pts_nil) (fun _ _ _ _ _ => pv 6)) (pa_nil)) (pk_cons (pe_int) (pk_nil)))))
    (pss_stop (pss_cons (ps_if (pt_cmp (o_eq hr.units) (pv 1) (pe_str) (nomark _)) (pss_one (ps_expr (pe_ml0 PySem.F.slot_list_reverse PySem.F.type_list_reverse m_rev (pv 2)))) (pss_nil))
    (pss_stop (pss_cons (ps_setLc (i := 3) (own := [("name", 7), ("_", 5)]) rfl sc_Schema_reading_order.nd rfl rfl (sw_true rfl rfl rfl (by decide +kernel)) (pi_seq (pe_at (pv 0))) (blkOk_by (own := [("name", 7), ("_", 5)]) (N := ["self", "first", "places", "order", "place", "_", "width", "name"]) (sc := defScope s_Schema_reading_order) (by decide +kernel)) (fun _ _ _ _ _ => pg_tup rfl (pgs_cons (pg_name (i := 7) sc_Schema_reading_order.nd rfl (Or.inl rfl)) (pgs_cons (pg_name (i := 5) sc_Schema_reading_order.nd rfl (Or.inl rfl)) (pgs_nil)))) (fun _ _ _ _ _ => pts_nil) (fun _ _ _ _ _ => pe_tup (pa_cons (pv 7) (pa_cons (pe_un u_neg (pe_int)) (pa_nil)))))
    (pss_stop (pss_cons (ps_for ownD rfl (pi_seq (pv 2)) (pg_name (i := 4) sc_Schema_reading_order.nd rfl (Or.inr rfl)) (pss_one (ps_expr (pe_ml PySem.F.slot_list_extend PySem.F.type_list_extend m_extA (pv 3) (pa_cons (pe_lc (own := [("name", 7), ("width", 6)]) rfl sc_Schema_reading_order.nd (pi_seq (pe_at (pv 0))) (blkOk_by (own := [("name", 7), ("width", 6)]) (N := ["self", "first", "places", "order", "place", "_", "width", "name"]) (sc := defScope s_Schema_reading_order) (by decide +kernel)) (fun _ _ _ _ _ => pg_tup rfl (pgs_cons (pg_name (i := 7) sc_Schema_reading_order.nd rfl (Or.inl rfl)) (pgs_cons (pg_name (i := 6) sc_Schema_reading_order.nd rfl (Or.inl rfl)) (pgs_nil)))) (fun _ _ _ _ _ => pts_one (pt_cmp o_lt (pv 4) (pv 6) (nomark _))) (fun _ _ _ _ _ => pe_tup (pa_cons (pv 7) (pa_cons (pv 4) (pa_nil))))) (pa_nil))))))
    (pss_stop (pss_one (ps_ret (pv 3))))))))))))
theorem ok_K_Schema_reading_order_1_first (T : T0 P K mg) : FK P w K mg base 1 (He.fAd K ("Schema", some "reading_order")) 1 ["first"] (sp_Schema_reading_order K) (fun vs zs => vs ++ zs) := by
  obtain ⟨fd, F⟩ := T.F_Schema_reading_order
  obtain ⟨its, hb⟩ := FunD.kbindsD (ps := ["self", "first"]) F 1 ["first"] (fun us its ws => us ++ ws) (List.cons_ne_nil _ _) (fun r1 r2 r3 => r1.append r3) (fun T kV doc pm an cdv ct us its ws l1 l2 l3 => match us, its, ws, l1, l2, l3 with | [_], [_], [_], _, _, _ => ⟨_, rfl, rfl⟩)
  refine mk_fnK F sc_Schema_reading_order (fun vs H Q E h => by
    revert h; intro h; (repeat (first | (obtain ⟨rfl, _⟩ := h; exact rfl) | obtain ⟨_, h⟩ := h))) ⟨_, hb⟩ (t := t_Schema_reading_order K) (fun cdv A outer s H E hr => ?_) (fun vs H Q E h => pure_Schema_reading_order vs H Q E h)
  exact pss_cons (ps_if (pt_cmp o_nin (pv 1) (pe_tup (pa_cons (pe_str) (pa_cons (pe_str) (pa_nil)))) (by rfl)) (pss_one (ps_giv T.X_BadOrder (ps_rs takesD T.R_BadOrder T.g_BadOrder))) (pss_nil))
    (pss_stop (pss_cons (ps_set (i := 2) sc_Schema_reading_order.nd rfl (Or.inl rfl) (pe_lstR1 rfl T.n_list T.n_range (pe_callBK (c_maxD rfl hr.units) (by rfl) T.n_max (by decide +kernel) (pa_cons (pe_lc (own := [("_", 5), ("width", 6)]) rfl sc_Schema_reading_order.nd (pi_seq (pe_at (pv 0))) (blkOk_by (own := [("_", 5), ("width", 6)]) (N := ["self", "first", "places", "order", "place", "_", "width", "name"]) (sc := defScope s_Schema_reading_order) (by decide +kernel)) (fun _ _ _ _ _ => pg_tup rfl (pgs_cons (pg_name (i := 5) sc_Schema_reading_order.nd rfl (Or.inl rfl)) (pgs_cons (pg_name (i := 6) sc_Schema_reading_order.nd rfl (Or.inl rfl)) (pgs_nil)))) (fun _ _ _ _ _ => pts_nil) (fun _ _ _ _ _ => pv 6)) (pa_nil)) (pk_cons (pe_int) (pk_nil)))))
    (pss_stop (pss_cons (ps_if (pt_cmp (o_eq hr.units) (pv 1) (pe_str) (nomark _)) (pss_one (ps_expr (pe_ml0 PySem.F.slot_list_reverse PySem.F.type_list_reverse m_rev (pv 2)))) (pss_nil))
    (pss_stop (pss_cons (ps_setLc (i := 3) (own := [("name", 7), ("_", 5)]) rfl sc_Schema_reading_order.nd rfl rfl (sw_true rfl rfl rfl (by decide +kernel)) (pi_seq (pe_at (pv 0))) (blkOk_by (own := [("name", 7), ("_", 5)]) (N := ["self", "first", "places", "order", "place", "_", "width", "name"]) (sc := defScope s_Schema_reading_order) (by decide +kernel)) (fun _ _ _ _ _ => pg_tup rfl (pgs_cons (pg_name (i := 7) sc_Schema_reading_order.nd rfl (Or.inl rfl)) (pgs_cons (pg_name (i := 5) sc_Schema_reading_order.nd rfl (Or.inl rfl)) (pgs_nil)))) (fun _ _ _ _ _ => pts_nil) (fun _ _ _ _ _ => pe_tup (pa_cons (pv 7) (pa_cons (pe_un u_neg (pe_int)) (pa_nil)))))
    (pss_stop (pss_cons (ps_for ownD rfl (pi_seq (pv 2)) (pg_name (i := 4) sc_Schema_reading_order.nd rfl (Or.inr rfl)) (pss_one (ps_expr (pe_ml PySem.F.slot_list_extend PySem.F.type_list_extend m_extA (pv 3) (pa_cons (pe_lc (own := [("name", 7), ("width", 6)]) rfl sc_Schema_reading_order.nd (pi_seq (pe_at (pv 0))) (blkOk_by (own := [("name", 7), ("width", 6)]) (N := ["self", "first", "places", "order", "place", "_", "width", "name"]) (sc := defScope s_Schema_reading_order) (by decide +kernel)) (fun _ _ _ _ _ => pg_tup rfl (pgs_cons (pg_name (i := 7) sc_Schema_reading_order.nd rfl (Or.inl rfl)) (pgs_cons (pg_name (i := 6) sc_Schema_reading_order.nd rfl (Or.inl rfl)) (pgs_nil)))) (fun _ _ _ _ _ => pts_one (pt_cmp o_lt (pv 4) (pv 6) (nomark _))) (fun _ _ _ _ _ => pe_tup (pa_cons (pv 7) (pa_cons (pv 4) (pa_nil))))) (pa_nil))))))
    (pss_stop (pss_one (ps_ret (pv 3))))))))))))
theorem ok_Schema_reading_order (T : T0 P K mg) : FR P w K mg base 1 (He.fAd K ("Schema", some "reading_order")) (sp_Schema_reading_order K) := by
  obtain ⟨fd, F⟩ := T.F_Schema_reading_order
  have hb := FunD.binds1 (ps := ["self", "first"]) F 2 1 (List.cons_ne_nil _ _) rfl fun T kV doc pm an cdv ct us its l1 l2 => match us, its, l1, l2 with | [_, _], [_], _, _ => ⟨_, rfl, rfl⟩
  exact spD_nil (okd_Schema_reading_order (P := P) (w := w) (base := base) T F hb)
theorem ok_Schema_reading_order_1 (T : T0 P K mg) : FR P w K mg base 1 (He.fAd K ("Schema", some "reading_order")) (spD (sp_Schema_reading_order K) [V.str "high"]) := by
  obtain ⟨fd, F⟩ := T.F_Schema_reading_order
  have hb := FunD.binds1 (ps := ["self", "first"]) F 1 0 (List.cons_ne_nil _ _) rfl fun T kV doc pm an cdv ct us its l1 l2 => match us, its, l1, l2 with | [_], [_], _, _ => ⟨_, rfl, rfl⟩
  exact  (okd_Schema_reading_order (P := P) (w := w) (base := base) T F hb)
theorem ok__law_is_number (T : T0 P K mg) : FR P w K mg base 1 (He.fAd K ("_law_is_number", none)) (sp__law_is_number K) := by
  obtain ⟨fd, F⟩ := T.F__law_is_number
  refine mk_fn F sc__law_is_number (fun vs H Q E h => by
    revert h; intro h; (repeat (first | (obtain ⟨rfl, _⟩ := h; exact rfl) | obtain ⟨_, h⟩ := h))) (fun _ _ _ _ _ _ us hl => match us, hl with | [_], _ => rfl) (t := t__law_is_number K) (fun cdv A outer s H E hr => ?_) (fun vs H Q E h => pure__law_is_number vs H Q E h)
  exact pss_one (ps_ret (pe_and (pe_cb c_isi T.n_isinstance (by decide +kernel) (pa_cons (pv 0) (pa_cons (pe_bt T.n_int (by decide +kernel)) (pa_nil)))) (pe_one (pe_not (pe_cb c_isi T.n_isinstance (by decide +kernel) (pa_cons (pv 0) (pa_cons (pe_bt T.n_bool (by decide +kernel)) (pa_nil))))))))
theorem ok__law_index_of (T : T0 P K mg) : FR P w K mg base 1 (He.fAd K ("_law_index_of", none)) (sp__law_index_of K) := by
  obtain ⟨fd, F⟩ := T.F__law_index_of
  refine mk_fn F sc__law_index_of (fun vs H Q E h => by
    revert h; intro h; (repeat (first | (obtain ⟨rfl, _⟩ := h; exact rfl) | obtain ⟨_, h⟩ := h))) (fun _ _ _ _ _ _ us hl => match us, hl with | [_, _], _ => rfl) (t := t__law_index_of K) (fun cdv A outer s H E hr => ?_) (fun vs H Q E h => pure__law_index_of vs H Q E h)
  exact pss_cons (ps_for ownD rfl (pi_rng (by rfl) T.n_range (pa_cons (pe_cb c_len T.n_len (by decide +kernel) (pa_cons (pv 0) (pa_nil))) (pa_nil))) (pg_name (i := 2) sc__law_index_of.nd rfl (Or.inl rfl)) (pss_one (ps_if (pt_cmp (o_eq hr.units) (pe_ix ix_any (pe_ix ix_any (pv 0) (pv 2) (fun _ _ => rfl)) (pe_int) (fun _ _ => rfl)) (pv 1) (nomark _)) (pss_one (ps_ret (pv 2))) (pss_nil))))
    (pss_stop (pss_one (ps_ret (pe_un u_neg (pe_int)))))
theorem ok__law_is_order (T : T0 P K mg) : FR P w K mg base 2 (He.fAd K ("_law_is_order", none)) (sp__law_is_order K) := by
  obtain ⟨fd, F⟩ := T.F__law_is_order
  have G__law_index_of := ok__law_index_of (P := P) (w := w) (base := base) T
  have G__law_is_number := ok__law_is_number (P := P) (w := w) (base := base) T
  refine mk_fn F sc__law_is_order (fun vs H Q E h => by
    revert h; intro h; (repeat (first | (obtain ⟨rfl, _⟩ := h; exact rfl) | obtain ⟨_, h⟩ := h))) (fun _ _ _ _ _ _ us hl => match us, hl with | [_, _, _], _ => rfl) (t := t__law_is_order K) (fun cdv A outer s H E hr => ?_) (fun vs H Q E h => pure__law_is_order vs H Q E h)
  exact pss_cons (ps_if (PW.pt (pw_or (pt_not (pt_of (pe_cb c_isi T.n_isinstance (by decide +kernel) (pa_cons (pv 0) (pa_cons (pe_bt T.n_list (by decide +kernel)) (pa_nil)))))) (pw_or1 (pt_cmp (o_ne hr.units) (pe_cb c_len T.n_len (by decide +kernel) (pa_cons (pv 0) (pa_nil))) (pe_cb (c_sum rfl) T.n_sum (by decide +kernel) (pa_cons (pe_lc (own := [("_law_pair", 7)]) rfl sc__law_is_order.nd (pi_seq (pv 1)) (blkOk_by (own := [("_law_pair", 7)]) (N := ["_law_told", "_law_columns", "_law_down", "_law_last", "_law_piece", "_law_index", "_law_rank", "_law_pair"]) (sc := defScope s__law_is_order) (by decide +kernel)) (fun _ _ _ _ _ => pg_name (i := 7) sc__law_is_order.nd rfl (Or.inl rfl)) (fun _ _ _ _ _ => pts_nil) (fun _ _ _ _ _ => pe_op o_add (pe_ix ix_any (pv 7) (pe_int) (fun _ _ => rfl)) (pe_int))) (pa_nil))) (nomark _))))) (pss_one (ps_ret (pe_bl))) (pss_nil))
    (pss_stop (pss_cons (ps_set (i := 3) sc__law_is_order.nd rfl (Or.inl rfl) (pe_lst (pa_nil)))
    (pss_stop (pss_cons (ps_for ownD rfl (pi_seq (pv 0)) (pg_name (i := 4) sc__law_is_order.nd rfl (Or.inl rfl)) (pss_cons (ps_if (PW.pt (pw_or (pt_not (pt_of (pe_cb c_isi T.n_isinstance (by decide +kernel) (pa_cons (pv 4) (pa_cons (pe_bt T.n_tuple (by decide +kernel)) (pa_nil)))))) (pw_or (pt_cmp (o_ne hr.units) (pe_cb c_len T.n_len (by decide +kernel) (pa_cons (pv 4) (pa_nil))) (pe_int) (nomark _)) (pw_or1 (pt_not (pt_of (pe_cb c_isi T.n_isinstance (by decide +kernel) (pa_cons (pe_ix ix_any (pv 4) (pe_int) (fun _ _ => rfl)) (pa_cons (pe_bt T.n_str (by decide +kernel)) (pa_nil)))))))))) (pss_one (ps_ret (pe_bl))) (pss_nil))
    (pss_stop (pss_cons (ps_if (pt_not (pt_of (pe_call (G__law_is_number) (hr.mono (by decide)) T.g__law_is_number T.k__law_is_number passD (pa_cons (pe_ix ix_any (pv 4) (pe_int) (fun _ _ => rfl)) (pa_nil))))) (pss_one (ps_ret (pe_bl))) (pss_nil))
    (pss_stop (pss_cons (ps_set (i := 5) sc__law_is_order.nd rfl (Or.inl rfl) (pe_call (G__law_index_of) (hr.mono (by decide)) T.g__law_index_of T.k__law_index_of passD (pa_cons (pv 1) (pa_cons (pe_ix ix_any (pv 4) (pe_int) (fun _ _ => rfl)) (pa_nil)))))
    (pss_stop (pss_cons (ps_if (PW.pt (pw_or (pt_cmp o_lt (pv 5) (pe_int) (nomark _)) (pw_or (pt_cmp o_lt (pe_ix ix_any (pv 4) (pe_int) (fun _ _ => rfl)) (pe_un u_neg (pe_int)) (nomark _)) (pw_or1 (pt_cmp o_ge (pe_ix ix_any (pv 4) (pe_int) (fun _ _ => rfl)) (pe_ix ix_any (pe_ix ix_any (pv 1) (pv 5) (fun _ _ => rfl)) (pe_int) (fun _ _ => rfl)) (nomark _)))))) (pss_one (ps_ret (pe_bl))) (pss_nil))
    (pss_stop (pss_cons (ps_set (i := 6) sc__law_is_order.nd rfl (Or.inl rfl) (pe_lst (pa_cons (pe_int) (pa_cons (pe_int) (pa_cons (pv 5) (pa_nil))))))
    (pss_stop (pss_cons (ps_if (PW.pt (pw_and (pt_cmp o_ge (pe_ix ix_any (pv 4) (pe_int) (fun _ _ => rfl)) (pe_int) (nomark _)) (pw_and1 (pt_of (pv 2))))) (pss_one (ps_set (i := 6) sc__law_is_order.nd rfl (Or.inl rfl) (pe_lst (pa_cons (pe_int) (pa_cons (pe_un u_neg (pe_ix ix_any (pv 4) (pe_int) (fun _ _ => rfl))) (pa_cons (pv 5) (pa_nil))))))) (pss_nil))
    (pss_stop (pss_cons (ps_if (PW.pt (pw_and (pt_cmp o_ge (pe_ix ix_any (pv 4) (pe_int) (fun _ _ => rfl)) (pe_int) (nomark _)) (pw_and1 (pt_not (pt_of (pv 2)))))) (pss_one (ps_set (i := 6) sc__law_is_order.nd rfl (Or.inl rfl) (pe_lst (pa_cons (pe_int) (pa_cons (pe_ix ix_any (pv 4) (pe_int) (fun _ _ => rfl)) (pa_cons (pv 5) (pa_nil))))))) (pss_nil))
    (pss_stop (pss_cons (ps_if (PW.pt (pw_and (pt_cmp (o_ne hr.units) (pv 3) (pe_lst (pa_nil)) (nomark _)) (pw_and1 (pt_cmp (o_leL hr.units) (pv 6) (pv 3) (nomark _))))) (pss_one (ps_ret (pe_bl))) (pss_nil))
    (pss_stop (pss_one (ps_set (i := 3) sc__law_is_order.nd rfl (Or.inl rfl) (pv 6))))))))))))))))))))
    (pss_stop (pss_one (ps_ret (pe_bl))))))))
theorem ok__law_refused (T : T0 P K mg) : FR P w K mg base 2 (He.fAd K ("_law_refused", none)) (sp__law_refused K) := by
  obtain ⟨fd, F⟩ := T.F__law_refused
  have G_Schema_reading_order := ok_Schema_reading_order (P := P) (w := w) (base := base) T
  refine mk_fn F sc__law_refused (fun vs H Q E h => by
    revert h; intro h; (repeat (first | (obtain ⟨rfl, _⟩ := h; exact rfl) | obtain ⟨_, h⟩ := h))) (fun _ _ _ _ _ _ us hl => match us, hl with | [_, _], _ => rfl) (t := t__law_refused K) (fun cdv A outer s H E hr => ?_) (fun vs H Q E h => pure__law_refused vs H Q E h)
  exact pss_cons (ps_set (i := 2) sc__law_refused.nd rfl (Or.inl rfl) (pe_lst (pa_nil)))
    (pss_stop (pss_cons (ps_giv T.X_SliceError (ps_try sc__law_refused.nd T.g_SliceError takesD (fun W1 pn1 xe1 tk1 po1 => pss_one (ps_expr (pe_methD T.D_Schema.cl T.M_Schema_reading_order G_Schema_reading_order (hr.mono (by decide)) (passAt tk1) (pv 0) (pa_cons (pv 1) (pa_nil))))) (fun a1 oe1 cls1 d1 pn1 hz1 hf1 => pss_one (ps_set (i := 2) sc__law_refused.nd rfl (Or.inl rfl) (pe_lst (pa_cons (pe_giv T.X_BadOrder.mf (pe_cb (c_ise hz1 hf1) T.n_isinstance (by decide +kernel) (pa_cons (pv 3) (pa_cons (pe_glob (by rfl) T.g_BadOrder rfl) (pa_nil))))) (pa_cons (pe_cb (c_ise hz1 hf1) T.n_isinstance (by decide +kernel) (pa_cons (pv 3) (pa_cons (pe_bt T.n_ValueError (by decide +kernel)) (pa_nil)))) (pa_cons (pe_giv T.X_BadSchema.mf (pe_cb (c_ise hz1 hf1) T.n_isinstance (by decide +kernel) (pa_cons (pv 3) (pa_cons (pe_glob (by rfl) T.g_BadSchema rfl) (pa_nil))))) (pa_nil)))))))))
    (pss_stop (pss_one (ps_ret (pe_cmp (o_eq hr.units) (pv 2) (pe_lst (pa_cons (pe_bl) (pa_cons (pe_bl) (pa_cons (pe_bl) (pa_nil))))) (nomark _)))))))
theorem ok_law (T : T0 P K mg) {fd : FuncData} (F : FunD K "law" "law" (defArgs s_law) (defBody s_law) (defScope s_law) [] [] (He.fAd K ("law", none)) fd) : FnOk P w K mg base CX0 4 (He.fAd K ("law", none)) fd ["_law_script"] (sp_law K) := by
  have GK_Schema_reading_order_1_first := ok_K_Schema_reading_order_1_first (P := P) (w := w) (base := base) T
  have G_Schema_reading_order := ok_Schema_reading_order (P := P) (w := w) (base := base) T
  have G_Schema_reading_order_1 := ok_Schema_reading_order_1 (P := P) (w := w) (base := base) T
  have G_Schemadd_initdd := ok_Schemadd_initdd (P := P) (w := w) (base := base) T
  have G__law_draw := ok__law_draw (P := P) (w := w) (base := base) T
  have G__law_is_order := ok__law_is_order (P := P) (w := w) (base := base) T
  have G__law_names := ok__law_names (P := P) (w := w) (base := base) T
  have G__law_refused := ok__law_refused (P := P) (w := w) (base := base) T
  refine mk_law F sc_law (fun vs H Q E h => by
    revert h; intro h; (repeat (first | (obtain ⟨rfl, _⟩ := h; exact rfl) | obtain ⟨_, h⟩ := h))) (t := t_law K) (fun cdv A outer s H E hr => ?_) (fun vs H Q E h => pure_law vs H Q E0 h)
  exact pss_cons (ps_set (i := 1) sc_law.nd rfl (Or.inl rfl) (pe_lst (pa_cons (pe_int) (pa_cons (pe_int) (pa_cons (pe_int) (pa_cons (pe_int) (pa_nil)))))))
    (pss_stop (pss_cons (ps_set (i := 2) sc_law.nd rfl (Or.inl rfl) (pe_call (G__law_draw) (hr.mono (by decide)) T.g__law_draw T.k__law_draw passL0 (pa_cons (pv 0) (pa_cons (pv 1) (pa_cons (pe_int) (pa_nil))))))
    (pss_stop (pss_cons (ps_set (i := 3) sc_law.nd rfl (Or.inl rfl) (pe_call (G__law_names) (hr.mono (by decide)) T.g__law_names T.k__law_names passL0 (pa_cons (pv 0) (pa_cons (pv 1) (pa_cons (pe_op o_add (pv 2) (pe_int)) (pa_nil))))))
    (pss_stop (pss_cons (ps_set (i := 4) sc_law.nd rfl (Or.inl rfl) (pe_lst (pa_nil)))
    (pss_stop (pss_cons (ps_for PassesOwn.never rfl (pi_rng (by rfl) T.n_range (pa_cons (pv 2) (pa_nil))) (pg_name (i := 5) sc_law.nd rfl (Or.inl rfl)) (pss_one (ps_if (pt_cmp (o_eq hr.units) (pv 2) (pe_int) (nomark _)) (pss_one (ps_expr (pe_ml PySem.F.slot_list_append PySem.F.type_list_append m_app (pv 4) (pa_cons (pe_tup (pa_cons (pe_ix ix_any (pv 3) (pv 5) (fun _ _ => rfl)) (pa_cons (pe_op o_add (pe_int) (pe_call (G__law_draw) (hr.mono (by decide)) T.g__law_draw T.k__law_draw passL0 (pa_cons (pv 0) (pa_cons (pv 1) (pa_cons (pe_int) (pa_nil)))))) (pa_nil)))) (pa_nil))))) (pss_one (ps_expr (pe_ml PySem.F.slot_list_append PySem.F.type_list_append m_app (pv 4) (pa_cons (pe_tup (pa_cons (pe_ix ix_any (pv 3) (pv 5) (fun _ _ => rfl)) (pa_cons (pe_op o_add (pe_int) (pe_call (G__law_draw) (hr.mono (by decide)) T.g__law_draw T.k__law_draw passL0 (pa_cons (pv 0) (pa_cons (pv 1) (pa_cons (pe_int) (pa_nil)))))) (pa_nil)))) (pa_nil))))))))
    (pss_stop (pss_cons (ps_set (i := 6) sc_law.nd rfl (Or.inl rfl) (pe_giv T.D_Schema (pe_mk T.K_Schema G_Schemadd_initdd (hr.mono (by decide)) T.g_Schema passL0 (pa_cons (pe_ct c_list T.n_list (by decide +kernel) (pa_cons (pv 4) (pa_nil))) (pa_nil)))))
    (pss_stop (pss_cons (ps_set (i := 7) sc_law.nd rfl (Or.inl rfl) (pe_methD0 T.D_Schema.cl T.M_Schema_reading_order G_Schema_reading_order_1 (hr.mono (by decide)) passL0 (pv 6)))
    (pss_stop (pss_cons (ps_if (pt_not (pt_of (pe_call (G__law_is_order) (hr.mono (by decide)) T.g__law_is_order T.k__law_is_order passL0 (pa_cons (pv 7) (pa_cons (pv 4) (pa_cons (pe_bl) (pa_nil))))))) (pss_one (ps_ret (pe_bl))) (pss_nil))
    (pss_stop (pss_cons (ps_set (i := 8) sc_law.nd rfl (Or.inl rfl) (pe_ct c_list T.n_list (by decide +kernel) (pa_cons (pv 7) (pa_nil))))
    (pss_stop (pss_cons (ps_expr (pe_ml0 PySem.F.slot_list_reverse PySem.F.type_list_reverse m_rev (pv 7)))
    (pss_stop (pss_cons (ps_expr (pe_ml PySem.F.slot_list_append PySem.F.type_list_append m_app (pv 7) (pa_cons (pe_tup (pa_cons (pe_str) (pa_cons (pe_int) (pa_nil)))) (pa_nil))))
    (pss_stop (pss_cons (ps_if (PW.pt (pw_or (pt_cmp (o_ne hr.units) (pe_methD T.D_Schema.cl T.M_Schema_reading_order G_Schema_reading_order (hr.mono (by decide)) passL0 (pv 6) (pa_cons (pe_str) (pa_nil))) (pv 8) (nomark _)) (pw_or1 (pt_cmp (o_ne hr.units) (pe_methDK0 (ks := ["first"]) T.D_Schema.cl T.M_Schema_reading_order GK_Schema_reading_order_1_first (hr.mono (by decide)) passL0 (pv 6) (pk_cons (pe_str) (pk_nil))) (pv 8) (nomark _))))) (pss_one (ps_ret (pe_bl))) (pss_nil))
    (pss_stop (pss_cons (ps_if (pt_cmp (o_ne hr.units) (pe_methD0 T.D_Schema.cl T.M_Schema_reading_order G_Schema_reading_order_1 (hr.mono (by decide)) passL0 (pv 6)) (pv 8) (nomark _)) (pss_one (ps_ret (pe_bl))) (pss_nil))
    (pss_stop (pss_cons (ps_set (i := 9) sc_law.nd rfl (Or.inl rfl) (pe_methD T.D_Schema.cl T.M_Schema_reading_order G_Schema_reading_order (hr.mono (by decide)) passL0 (pv 6) (pa_cons (pe_str) (pa_nil))))
    (pss_stop (pss_cons (ps_if (PW.pt (pw_or (pt_not (pt_of (pe_call (G__law_is_order) (hr.mono (by decide)) T.g__law_is_order T.k__law_is_order passL0 (pa_cons (pv 9) (pa_cons (pv 4) (pa_cons (pe_bl) (pa_nil))))))) (pw_or1 (pt_cmp (o_ne hr.units) (pe_methDK0 (ks := ["first"]) T.D_Schema.cl T.M_Schema_reading_order GK_Schema_reading_order_1_first (hr.mono (by decide)) passL0 (pv 6) (pk_cons (pe_str) (pk_nil))) (pv 9) (nomark _))))) (pss_one (ps_ret (pe_bl))) (pss_nil))
    (pss_stop (pss_cons (ps_set (i := 10) sc_law.nd rfl (Or.inl rfl) (pe_ix ix_any (pe_lst (pa_cons (pe_str) (pa_cons (pe_str) (pa_cons (pe_str) (pa_cons (pe_str) (pa_cons (pe_str) (pa_cons (pe_str) (pa_cons (pe_str) (pa_nil))))))))) (pe_call (G__law_draw) (hr.mono (by decide)) T.g__law_draw T.k__law_draw passL0 (pa_cons (pv 0) (pa_cons (pv 1) (pa_cons (pe_int) (pa_nil))))) (fun _ _ => rfl)))
    (pss_stop (pss_one (ps_ret (pe_and (pe_call (G__law_refused) (hr.mono (by decide)) T.g__law_refused T.k__law_refused passL0 (pa_cons (pv 6) (pa_cons (pv 10) (pa_nil)))) (pe_one (pe_call (G__law_refused) (hr.mono (by decide)) T.g__law_refused T.k__law_refused passL0 (pa_cons (pv 6) (pa_cons (pe_op o_add (pe_ix ix_any (pv 3) (pv 2) (fun _ _ => rfl)) (pe_str)) (pa_nil)))))))))))))))))))))))))))))))))))))))
end
theorem hfacts {w : World} {K : Frag} {h : Heap} {mg : Str → Option Value} {f : Addr} (X : K.In h) (G : h.Ns mainGlobals mg) (hla : mg ("law" : Str) = some (.ref f)) (c : SaysX hfa hfx hfn K) :
    ∃ fd : FuncData, (∀ (s : Shared) (v : Value), BindsTo s fd ⟨[v], []⟩ [("_law_script", v)]) ∧ ∀ base : Heap, K.In base → base.Ns mainGlobals mg → FnOk hP w K mg base CX0 4 f fd ["_law_script"] (sp_law K) := by
  have g_BadOrder := He.glo_ok X G (c.fact 0 (f := .glo "BadOrder") rfl)
  have g_BadSchema := He.glo_ok X G (c.fact 1 (f := .glo "BadSchema") rfl)
  have g_Schema := He.glo_ok X G (c.fact 2 (f := .glo "Schema") rfl)
  have g_SliceError := He.glo_ok X G (c.fact 3 (f := .glo "SliceError") rfl)
  have g__law_draw := He.glo_ok X G (c.fact 4 (f := .glo "_law_draw") rfl)
  have g__law_index_of := He.glo_ok X G (c.fact 5 (f := .glo "_law_index_of") rfl)
  have g__law_is_number := He.glo_ok X G (c.fact 6 (f := .glo "_law_is_number") rfl)
  have g__law_is_order := He.glo_ok X G (c.fact 7 (f := .glo "_law_is_order") rfl)
  have g__law_names := He.glo_ok X G (c.fact 8 (f := .glo "_law_names") rfl)
  have g__law_refused := He.glo_ok X G (c.fact 9 (f := .glo "_law_refused") rfl)
  have g_is_name := He.glo_ok X G (c.fact 10 (f := .glo "is_name") rfl)
  have g_law := He.glo_ok X G (c.fact 11 (f := .glo "law") rfl)
  have n_ValueError := He.free_ok X G (c.fact 12 (f := .free "ValueError") rfl)
  have n_abs := He.free_ok X G (c.fact 13 (f := .free "abs") rfl)
  have n_bool := He.free_ok X G (c.fact 14 (f := .free "bool") rfl)
  have n_int := He.free_ok X G (c.fact 15 (f := .free "int") rfl)
  have n_isinstance := He.free_ok X G (c.fact 16 (f := .free "isinstance") rfl)
  have n_len := He.free_ok X G (c.fact 17 (f := .free "len") rfl)
  have n_list := He.free_ok X G (c.fact 18 (f := .free "list") rfl)
  have n_max := He.free_ok X G (c.fact 19 (f := .free "max") rfl)
  have n_range := He.free_ok X G (c.fact 20 (f := .free "range") rfl)
  have n_str := He.free_ok X G (c.fact 21 (f := .free "str") rfl)
  have n_sum := He.free_ok X G (c.fact 22 (f := .free "sum") rfl)
  have n_tuple := He.free_ok X G (c.fact 23 (f := .free "tuple") rfl)
  have K_Schema : Mk K (He.ga K "Schema") (He.fAd K ("Schema", some "__init__")) := He.mkr_ok (c.fact 24 (f := .mkr "Schema") rfl)
  have M_Schema_reading_order : Meth K (He.ga K "Schema") "reading_order" (He.fAd K ("Schema", some "reading_order")) := He.meth_ok (c.fact 25 (f := .meth "Schema" "reading_order") rfl)
  have Z_LETTERS : ∃ t, mg "LETTERS" = some (.str "abcdefghijklmnopqrstuvwxyz" t) := He.str_ok X G (c.fact 26 (f := .str "LETTERS" "abcdefghijklmnopqrstuvwxyz") rfl)
  have Z_LONGEST : ∃ t, mg "LONGEST" = some (.int 8 t) := He.int_ok X G (c.fact 27 (f := .int "LONGEST" 8) rfl)
  have D_Schema : DF K "Schema" [] ["columns"] := dfB_ok (c.more 0 (f := dfB "Schema" [] ["columns"]) rfl)
  have R_BadOrder : RsF K "BadOrder" := rsB_ok (c.more 1 (f := rsB "BadOrder") rfl)
  have R_BadSchema : RsF K "BadSchema" := rsB_ok (c.more 2 (f := rsB "BadSchema") rfl)
  have X_BadOrder : ExF K "BadOrder" ["SliceError"] := exfB_ok (c.more 3 (f := exfB "BadOrder" ["SliceError"]) rfl)
  have X_BadSchema : ExF K "BadSchema" ["SliceError"] := exfB_ok (c.more 4 (f := exfB "BadSchema" ["SliceError"]) rfl)
  have X_SliceError : ExF K "SliceError" [] := exfB_ok (c.more 5 (f := exfB "SliceError" []) rfl)
  have F__law_draw := c.def_ 0 rfl
  have F__law_names := c.def_ 1 rfl
  have F_is_name := c.def_ 2 rfl
  have F_Schemadd_initdd := c.def_ 3 rfl
  have F_Schema_reading_order := c.def_ 4 rfl
  have F__law_is_number := c.def_ 5 rfl
  have F__law_index_of := c.def_ 6 rfl
  have F__law_is_order := c.def_ 7 rfl
  have F__law_refused := c.def_ 8 rfl
  have F_law := c.def_ 9 rfl
  have T : T0 hP K mg := ⟨n_ValueError, n_abs, n_bool, n_int, n_isinstance, n_len, n_list, n_max, n_range, n_str, n_sum, n_tuple, g_BadOrder, g_BadSchema, g_Schema, g_SliceError, g__law_draw, g__law_index_of, g__law_is_number, g__law_is_order, g__law_names, g__law_refused, g_is_name, g_law, F__law_draw, (let ⟨_, F⟩ := F__law_draw; F.kp), F__law_names, (let ⟨_, F⟩ := F__law_names; F.kp), F_is_name, (let ⟨_, F⟩ := F_is_name; F.kp), F_Schemadd_initdd, (let ⟨_, F⟩ := F_Schemadd_initdd; F.kp), F_Schema_reading_order, (let ⟨_, F⟩ := F_Schema_reading_order; F.kp), F__law_is_number, (let ⟨_, F⟩ := F__law_is_number; F.kp), F__law_index_of, (let ⟨_, F⟩ := F__law_index_of; F.kp), F__law_is_order, (let ⟨_, F⟩ := F__law_is_order; F.kp), F__law_refused, (let ⟨_, F⟩ := F__law_refused; F.kp), F_law, (let ⟨_, F⟩ := F_law; F.kp), D_Schema, K_Schema, M_Schema_reading_order, R_BadOrder, R_BadSchema, X_BadOrder, X_BadSchema, X_SliceError, Z_LETTERS, Z_LONGEST⟩
  obtain ⟨fd, F⟩ := F_law
  have e := hla.symm.trans g_law
  cases e
  have b := FunD.bindsA (ps := ["_law_script"]) F fun _ _ _ _ _ _ us hl => match us, hl with | [_], _ => rfl
  exact ⟨fd, fun s v => b s [v] rfl, fun base _ _ => ok_law T F⟩
end S
open PySem PySem.W PySem.Calls PyProof.Rows
theorem PySem.Challenge.cw_slicedcolumns_k37_reading_order_holds : PySem.Challenge.rw_slicedcolumns_k37_reading_order.Holds := by
  w_on; o_law
  refine HandSHeadRun.head_any (r := OpenLaw.row PySem.Challenge.rw_slicedcolumns_k37_reading_order) (q := view (OpenLaw.row PySem.Challenge.rw_slicedcolumns_k37_reading_order).prog [17]) (H := S.hhk) (ob := S.hob) (M := 16000) (loose := S.hloose) (d := HandSHeadRun.topDef (OpenLaw.row PySem.Challenge.rw_slicedcolumns_k37_reading_order).prog 17) (kwd := []) S.hob_eq
    (by kernel_rfl) (fun s => by kernel_rfl) S.hrun (by kernel_rfl) (by kernel_rfl) (by kernel_rfl) (by rfl) (by first | assumption | decide +kernel) (by decide +kernel) ⟨rfl, rfl, rfl, rfl, rfl, by decide +kernel⟩ ?hw ?hc
  case hw => w_witness2
  case hc =>
    refine L2.walk_ofE (l := PySem.Challenge.rw_slicedcolumns_k37_reading_order) (n := 63) (k := 4) (x := "_law_script") (CX := L2.CX0) rfl (by decide) (by kernel_rfl) ⟨rfl, by decide, by decide⟩ ?F (fun _ _ _ _ z => z)
    intro w mg fa h Y G hmg0
    obtain ⟨K, KX, c⟩ := Y
    have hmg : mg ("law" : PySem.Str) = some (.ref fa) := by
      have e : (HandSHeadRun.topDef (OpenLaw.row PySem.Challenge.rw_slicedcolumns_k37_reading_order).prog 17).name = ("law" : PySem.Str) := by kernel_rfl
      rw [← e]
      exact hmg0
    obtain ⟨fd, hb, hF⟩ := S.hfacts (w := w) KX G hmg c
    exact ⟨K, fd, S.sp_law K, KX, hb, fun H a ns hl _ hS => ⟨a, ns, rfl, hS, fun _ => rfl⟩, hF⟩
