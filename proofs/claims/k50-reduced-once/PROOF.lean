import PyProof.Rows.All
import Wide.All
import OpenK.AllK
import Wide.FinOn
import HandS.ForMost
import HandS.ForExc
import HandS.TupAny
import HandS.IsInst
import HandS.Conv
import HandS.Defaults
import HandS.WideBits
import HandS.SortInts
import HandS.Slots
import HandS.Flow
import HandS.SlotsOwn
import HandS.Exc
import HandS.ExcOwn
import HandS.CallSlots
import HandS.ExcInit
import HandS.ExcIs
import KE.KExcIs
import KE.KExcSuper
import HandS.Head0
import HandS.Head1
import HandS.Head2
import HandS.HeadEnd
import HandS.HeadHook1
import HandS.HeadHook2
import KE.GoesEnum
import HandS.ExcField
import HandS.WideBits
import PyProof.StrReplace2
import KE.KOpsOwn
import HandS.Iter
import HandS.OwnEq
import HandS.Defaults
import HandS.MakeKwOnly
import HandS.TryOnly
import KE.SortCalls
import HandS.GenList
import HandS.Zip
import HandS.Strs
import HandS.TupSets
import PyProof.Rows.SetFrom
import PyProof.AutoSeq1
import PyProof.Rows.ChunkEnd
import HandS.IterNext
import HandS.OwnIter
import PyProof.NeKinds
import KE.SortData
import HandS.Deep
import HandS.Wide
import HandS.TryMany
import PyProof.WalksMore
import HandS.Text
import HandS.SortKw
import KE.DatumOrd
import HandS.MakeKw
import HandS.Dict
import HandS.DictComp
import HandS.More
import HandS.Small
import HandS.Conv
import KE.KDictPairs
import OpenK.KOps
import HandS.Nested
import KE.KSuper
import HandS.Style
import KE.OsArith
import KE.BitLaws
import KE.KDictDisplayH
import HandS.SetTxt0
import HandS.SetFor
import KE.KDictCopyH
import HandS.SetKeys
import HandS.TupLen
import HandS.DictTup
import HandS.Rev
import PySem.Challenge.RW_slicedcolumns_k50_reduced_once
set_option Elab.async false
set_option linter.all false
set_option maxRecDepth 100000
set_option maxHeartbeats 4000000
namespace S
open PySem PySem.Spec PyProof.Rows L2
abbrev Frag := PySem.W.Frag
/-! ## readings that reduce -/
theorem PE.of {X : Cx} {e : Expr} {t t' : TE} (h : PE X e t) (i : ∀ σ H Q, t' σ H Q → t σ H Q) : PE X e t' := ⟨fun pins s σ H Q I q => h.run pins s σ H Q I (i σ H Q q)⟩
theorem PT.of {X : Cx} {e : Expr} {t t' : TT} (h : PT X e t) (i : ∀ σ H Q, t' σ H Q → t σ H Q) : PT X e t' := ⟨fun pins s σ H Q I q => h.run pins s σ H Q I (i σ H Q q)⟩
theorem PS.of {X : Cx} {e : Stmt} {t t' : TS} (h : PS X e t) (i : ∀ D σ H, t' D σ H → t D σ H) : PS X e t' := ⟨fun pins s σ H Q I q => h.run pins s σ H Q I (i Q σ H q)⟩
theorem OpR.of {X : Cx} {f : Value → Value → Sem Value} {r r' : R2} (h : OpR X f r) (i : ∀ x y H Q, r' x y H Q → r x y H Q) : OpR X f r' := fun pins s σ H x y v u Q I rx ry q => h pins s σ H x y v u Q I rx ry (i x y H Q q)
theorem IxR.of {X : Cx} {r r' : R2} (h : IxR X r) (i : ∀ x y H Q, r' x y H Q → r x y H Q) : IxR X r' := fun e1 e2 pins s σ H x y v u Q I rx ry q hs => h e1 e2 pins s σ H x y v u Q I rx ry (i x y H Q q) hs
theorem CallR.of {X : Cx} {f : Value} {r r' : List V → Hp → VK → Prop} (h : CallR X f r) (i : ∀ xs H Q, r' xs H Q → r xs H Q) : CallR X f r' := fun pins s σ H xs us Q I rx q => h pins s σ H xs us Q I rx (i xs H Q q)
def nth : L2.St → Nat → Option V
  | [], _ => none
  | x :: _, 0 => x
  | _ :: r, n + 1 => nth r n
theorem nth_ok : ∀ {σ : L2.St} {i : Nat} {v : V}, nth σ i = some v → σ[i]? = some (some v)
  | [], _, _, h => nomatch h
  | x :: _, 0, _, h => by
    have e : x = some _ := h
    rw [e]; rfl
  | _ :: r, n + 1, _, h => by
    have := nth_ok (σ := r) (i := n) h
    simpa using this
def SqA (K : Frag) (H : Hp) (p : Addr) (xs : List V) : Prop := SqL K H p xs ∨ SqT K H p xs
/-! ### points at which a reading waits for an answer -/
/-- a condition, then on -/
structure Need (c q : Prop) : Prop where
  c : c
  q : q
/-- the sequence at p is read -/
structure Rd (K : Frag) (H : Hp) (p : Addr) (k : List V → Prop) : Prop where
  ex : ∃ xs, SqA K H p xs ∧ k xs
theorem Rd.l {K : Frag} {H : Hp} {p : Addr} {k : List V → Prop} {xs : List V} (h : H p = some (.lst xs)) (q : k xs) : Rd K H p k := ⟨xs, .inl (SqL.of h), q⟩
theorem Rd.t {K : Frag} {H : Hp} {p : Addr} {k : List V → Prop} {xs : List V} (h : H p = some (.tup xs)) (q : k xs) : Rd K H p k := ⟨xs, .inr (SqT.of h), q⟩
theorem Rd.sl {K : Frag} {H : Hp} {p : Addr} {k : List V → Prop} {xs : List V} (h : SqL K H p xs) (q : k xs) : Rd K H p k := ⟨xs, .inl h, q⟩
theorem Rd.st {K : Frag} {H : Hp} {p : Addr} {k : List V → Prop} {xs : List V} (h : SqT K H p xs) (q : k xs) : Rd K H p k := ⟨xs, .inr h, q⟩
theorem Rd.sa {K : Frag} {H : Hp} {p : Addr} {k : List V → Prop} {xs : List V} (h : SqA K H p xs) (q : k xs) : Rd K H p k := ⟨xs, h, q⟩
/-- the item at i -/
structure At (xs : List V) (i : Int) (k : V → Prop) : Prop where
  ex : ∃ v, atI xs i = some v ∧ k v
theorem At.of {xs : List V} {i : Int} {k : V → Prop} {v : V} (h : atI xs i = some v) (q : k v) : At xs i k := ⟨v, h, q⟩
/-- the list at p is to be changed -/
structure Ls (H : Hp) (p : Addr) (k : List V → Prop) : Prop where
  ex : ∃ xs, H p = some (.lst xs) ∧ k xs
theorem Ls.of {H : Hp} {p : Addr} {k : List V → Prop} {xs : List V} (h : H p = some (.lst xs)) (q : k xs) : Ls H p k := ⟨xs, h, q⟩
/-- a new list; a new tuple, or one that stands -/
structure NewL (H : Hp) (ys : List V) (Q : V → Hp → Prop) : Prop where
  go : ∀ p, H p = none → Q (.ref p) (upd H p (.lst ys))
structure NewT (K : Frag) (H : Hp) (ys : List V) (Q : V → Hp → Prop) : Prop where
  go : ∀ p H', Same H H' → SqT K H' p ys → Q (.ref p) H'
def onSome (o : Option V) (k : V → Prop) : Prop := match o with
  | some v => k v
  | none => False
def dVar (i : Nat) : TE := fun σ H Q => onSome (nth σ i) fun v => Q v H
theorem pv {X : Cx} (i : Nat) {x : Str} {pos : Pos} (hN : X.N[i]? = some x := by rfl) (hv : Vis X.env.scope x := by first | exact Or.inl rfl | exact Or.inr (Or.inl rfl) | exact Or.inr (Or.inr rfl)) (hd : (x == ("__debug__" : Str)) = false := by decide)
    (hcd : (x == ("__classdict__" : Str)) = false := by decide) : PE X (.Name x pos) (dVar i) := PE.of (pe_var hN hv hd hcd) fun σ H Q q => by
  unfold dVar onSome at q
  cases e : nth σ i with
  | none => rw [e] at q; exact q.elim
  | some v => rw [e] at q; exact ⟨v, nth_ok e, q⟩
/-- two ways by a bool -/
def bIf (b : Bool) (A B : Prop) : Prop := match b with
  | true => A
  | false => B
theorem ifb {b : Bool} {A B : Prop} (h1 : b = true → A) (h2 : b = false → B) : bIf b A B := by
  cases b with
  | true => exact h1 rfl
  | false => exact h2 rfl
theorem ifd {c : Prop} [Decidable c] {A B : Prop} (h1 : c → A) (h2 : ¬ c → B) : bIf (decide c) A B := ifb (fun h => h1 (of_decide_eq_true h)) fun h => h2 (of_decide_eq_false h)
theorem ifn {c : Prop} [Decidable c] {A B : Prop} (h1 : ¬ c → A) (h2 : c → B) : bIf (!decide c) A B := ifb (fun h => h1 (by simpa using h)) fun h => h2 (by simpa using h)
/-! ### tests -/
def dTru (K : Frag) (x : V) (H : Hp) (Q : Bool → Prop) : Prop := match x with
  | .bl b => Q b
  | .non => Q false
  | .int i => Q (decide (i ≠ 0))
  | .str z => Need (z.length ≤ sizeLine) (Q (decide (z.length ≠ 0)))
  | .ref p => Rd K H p fun xs => Q (decide (xs ≠ []))
  | _ => False
def dTest (K : Frag) (ta : TE) : TT := fun σ H Q => ta σ H fun x H1 => dTru K x H1 fun b => Q b H1
theorem pt_of {X : Cx} {a : Expr} {ta : TE} (ha : PE X a ta) (he : ∀ whole, isTrue a X.env whole = (do let v ← whole; standAt a.pos; holding [v] (truthy v)) := by intro _; rfl) : PT X a (dTest X.K ta) := by
  refine ⟨fun pins s σ H Q I h => ?_⟩
  refine isTrue_plain (thn (ha.run pins s σ H _ I h) fun v s1 ⟨x, H1, I1, r1, q1⟩ => ?_) (he _)
  cases x with
  | bl b =>
    exact tru_ok pins s1 σ H1 (.bl b) v Q I1 r1 ⟨b, rfl, q1⟩
  | non =>
    exact tru_ok pins s1 σ H1 .non v Q I1 r1 ⟨false, rfl, q1⟩
  | int i =>
    refine tru_ok pins s1 σ H1 (.int i) v Q I1 r1 ⟨_, rfl, ?_⟩
    have e : (i != 0) = decide (i ≠ 0) := by by_cases h : i = 0 <;> simp [h]
    rw [e]; exact q1
  | str z =>
    refine tru_ok pins s1 σ H1 (.str z) v Q I1 r1 ⟨_, ⟨q1.c, rfl⟩, ?_⟩
    have e : ((z.length : Int) != 0) = decide (z.length ≠ 0) := by by_cases h : z.length = 0 <;> simp [h]
    rw [e]; exact q1.q
  | ref p =>
    obtain ⟨⟨xs, hx, q⟩⟩ := q1
    have e : (!xs.isEmpty) = decide (xs ≠ []) := by cases xs <;> simp
    rcases hx with hx | hx
    · refine tru_ok pins s1 σ H1 (.ref p) v Q I1 r1 ⟨_, .inl ⟨xs, hx, rfl⟩, ?_⟩
      rw [e]; exact q
    · refine tru_ok pins s1 σ H1 (.ref p) v Q I1 r1 ⟨_, .inr (.inl ⟨xs, hx, rfl⟩), ?_⟩
      rw [e]; exact q
  | _ => exact q1.elim
def dAnd (t u : TT) : TT := fun σ H Q => t σ H fun c H1 => bIf c (u σ H1 Q) (Q false H1)
def dOr (t u : TT) : TT := fun σ H Q => t σ H fun c H1 => bIf c (Q true H1) (u σ H1 Q)
def dNot (t : TT) : TT := fun σ H Q => t σ H fun c H1 => Q (!c) H1
def dIfS (c : TT) (t u : TS) : TS := fun D σ H => c σ H fun b H1 => bIf b (t D σ H1) (u D σ H1)

/-! ### operators by the values -/
def int2 (k : Int → Int → Prop) (x y : V) : Prop := match x, y with
  | .int i, .int j => k i j
  | _, _ => False
/-- two lists, two tuples one behind the other -/
structure Cat (K : Frag) (H : Hp) (a b : Addr) (Q : V → Hp → Prop) : Prop where
  ex : (∃ xs zs, H a = some (.lst xs) ∧ H b = some (.lst zs) ∧ xs.length + zs.length ≤ sizeLine ∧ ∀ p, H p = none → Q (.ref p) (upd H p (.lst (xs ++ zs)))) ∨
     (∃ xs ys, SqT K H a xs ∧ SqT K H b ys ∧ xs.length + ys.length ≤ sizeLine ∧ ∀ p H', Same H H' → SqT K H' p (xs ++ ys) → Q (.ref p) H')
theorem Cat.l {K : Frag} {H : Hp} {a b : Addr} {Q : V → Hp → Prop} {xs zs : List V} (h : H a = some (.lst xs)) (h2 : H b = some (.lst zs)) (hz : xs.length + zs.length ≤ sizeLine) (q : ∀ p, H p = none → Q (.ref p) (upd H p (.lst (xs ++ zs)))) : Cat K H a b Q := ⟨.inl ⟨xs, zs, h, h2, hz, q⟩⟩
theorem Cat.t {K : Frag} {H : Hp} {a b : Addr} {Q : V → Hp → Prop} {xs ys : List V} (h : SqT K H a xs) (h2 : SqT K H b ys) (hz : xs.length + ys.length ≤ sizeLine) (q : ∀ p H', Same H H' → SqT K H' p (xs ++ ys) → Q (.ref p) H') : Cat K H a b Q := ⟨.inr ⟨xs, ys, h, h2, hz, q⟩⟩
def oAdd (K : Frag) : R2 := fun x y H Q => match x, y with
  | .int i, .int j => Q (.int (i + j)) H
  | .str a, .str b => Need (a.length + b.length ≤ sizeLine) (Q (.str (a ++ b)) H)
  | .ref a, .ref b => Cat K H a b Q
  | _, _ => False
theorem same_new {H : Hp} {p : Addr} {o : HO} (h : H p = none) : Same H (upd H p o) := fun b u e => by rw [upd_ne (ne_of_none e h)]; exact e
theorem o_add {X : Cx} : OpR X (binaryOp .Add) (oAdd X.K) := OpR.of (op_add.or (op_add_str.or (op_cat.or op_catA))) fun x y H Q q => by
  cases x <;> cases y <;> try exact q.elim
  · exact .inl ⟨_, _, rfl, rfl, q⟩
  · exact .inr (.inl ⟨_, _, rfl, rfl, q.c, q.q⟩)
  · rcases q.ex with ⟨xs, zs, h1, h2, h3, q⟩ | ⟨xs, ys, h1, h2, h3, q⟩
    · exact .inr (.inr (.inl ⟨_, _, xs, zs, rfl, rfl, h1, h2, h3, q⟩))
    · refine .inr (.inr (.inr ⟨_, _, xs, ys, rfl, rfl, h1, h2, h3, fun e => ?_, fun _ e => ?_, fun _ _ p hp => ?_⟩))
      · subst e; exact q _ _ (Same.refl _) h2
      · subst e; exact q _ _ (Same.refl _) (by rw [List.append_nil]; exact h1)
      · exact q _ _ (same_new hp) (SqT.of upd_same)
def oI (C : Int → Int → Prop) (g : Int → Int → Int) : R2 := fun x y H Q => int2 (fun i j => Need (C i j) (Q (.int (g i j)) H)) x y
def oI0 (g : Int → Int → Int) : R2 := fun x y H Q => int2 (fun i j => Q (.int (g i j)) H) x y
theorem oI_of {X : Cx} {f : Value → Value → Sem Value} {C : Int → Int → Prop} {g : Int → Int → Int} (h : OpR X f (rI C fun i j => .int (g i j))) : OpR X f (oI C g) := OpR.of h fun x y H Q q => by
  cases x <;> cases y <;> try exact q.elim
  exact ⟨_, _, rfl, rfl, q.c, q.q⟩
theorem oI0_of {X : Cx} {f : Value → Value → Sem Value} {g : Int → Int → Int} (h : OpR X f (rI0 fun i j => .int (g i j))) : OpR X f (oI0 g) := OpR.of h fun x y H Q q => by
  cases x <;> cases y <;> try exact q.elim
  exact ⟨_, _, rfl, rfl, q⟩
def oSub : R2 := oI0 fun i j => i - j
theorem o_sub {X : Cx} : OpR X (binaryOp .Sub) oSub := oI0_of op_sub
def oFdiv : R2 := oI CDiv fun i j => i / j
theorem o_fdiv {X : Cx} : OpR X (binaryOp .FloorDiv) oFdiv := oI_of op_fdiv
def oMod : R2 := oI (fun _ j => 0 < j) fun i j => i % j
theorem o_mod {X : Cx} : OpR X (binaryOp .Mod) oMod := oI_of op_mod
def oPow : R2 := oI CPow fun i j => i ^ j.toNat
theorem o_pow {X : Cx} : OpR X (binaryOp .Pow) oPow := oI_of op_pow
def oAnd : R2 := oI0 fun i j => Builtin.bitAnd i j
theorem o_and {X : Cx} : OpR X (binaryOp .BitAnd) oAnd := oI0_of op_and
def oShl : R2 := oI CPow fun i j => i * 2 ^ j.toNat
theorem o_shl {X : Cx} : OpR X (binaryOp .LShift) oShl := oI_of op_shl
def oShr : R2 := oI (fun _ j => 0 ≤ j) fun i j => i / 2 ^ j.toNat
theorem o_shr {X : Cx} : OpR X (binaryOp .RShift) oShr := oI_of op_shr
def uNeg : V → Hp → VK → Prop := fun x H Q => match x with
  | .int i => Q (.int (-i)) H
  | _ => False
theorem u_neg {X : Cx} : UnR X (unaryOp .USub) uNeg := fun pins s σ H x v Q I rx q => by
  cases x <;> try exact q.elim
  exact un_neg pins s σ H _ v Q I rx ⟨_, rfl, q⟩
def oC (g : Int → Int → Bool) : R2 := fun x y H Q => int2 (fun i j => Q (.bl (g i j)) H) x y
theorem oC_of {X : Cx} {f : Value → Value → Sem Value} {g : Int → Int → Bool} (h : OpR X f (rI0 fun i j => .bl (g i j))) : OpR X f (oC g) := OpR.of h fun x y H Q q => by
  cases x <;> cases y <;> try exact q.elim
  exact ⟨_, _, rfl, rfl, q⟩
def oLt : R2 := oC fun i j => decide (i < j)
def oGt : R2 := oC fun i j => decide (j < i)
def oGe : R2 := oC fun i j => decide (j ≤ i)
theorem o_lt {X : Cx} : OpR X (compareOp .Lt) oLt := oC_of op_lt
theorem o_gt {X : Cx} : OpR X (compareOp .Gt) oGt := oC_of op_gt
theorem o_ge {X : Cx} : OpR X (compareOp .GtE) oGe := oC_of op_ge
def oIsN : R2 := fun x y H Q => y = .non ∧ Q (.bl (match x with | .non => true | _ => false)) H
theorem o_isN {X : Cx} : OpR X (compareOp .Is) oIsN := OpR.of op_isN fun x y H Q q => ⟨q.1, by cases x <;> exact q.2⟩
/-- two data compared -/
structure EqD (K : Frag) (H : Hp) (x y : V) (k : Bool → Prop) : Prop where
  ex : ∃ d e, Dp K H x d ∧ Dp K H y e ∧ SeqAt.shaped d = true ∧ SeqAt.shaped e = true ∧ k (PyData.eqv d e)
/-- == of scalars and of data -/
def oEq (K : Frag) : R2 := fun x y H Q => match x, y with
  | .int i, .int j => Q (.bl (decide (i = j))) H
  | .str i, .str j => Q (.bl (decide (i = j))) H
  | .bl i, .bl j => Q (.bl (decide (i = j))) H
  | .non, .non => Q (.bl true) H
  | .non, .int _ => Q (.bl false) H
  | .int _, .non => Q (.bl false) H
  | .non, .bl _ => Q (.bl false) H
  | .bl _, .non => Q (.bl false) H
  | .non, .str _ => Q (.bl false) H
  | .str _, .non => Q (.bl false) H
  | .int _, .str _ => Q (.bl false) H
  | .str _, .int _ => Q (.bl false) H
  | x, y => EqD K H x y fun b => Q (.bl b) H
def oNe (K : Frag) : R2 := fun x y H Q => oEq K x y H fun v H' => match v with
  | .bl b => Q (.bl (!b)) H'
  | _ => False
theorem o_eq {X : Cx} (hu : X.A.units + 64 < cLine) : OpR X (compareOp .Eq) (oEq X.K) := OpR.of (op_eq.or (op_eqD hu)) fun x y H Q q => by
  cases x <;> cases y <;> first
    | exact .inr q.ex
    | (refine .inl ⟨rfl, ?_⟩; refine Eq.mp (congrArg (fun b => Q (V.bl b) H) ?_) q; simp)
theorem o_ne {X : Cx} (hu : X.A.units + 64 < cLine) : OpR X (compareOp .NotEq) (oNe X.K) := OpR.of (op_ne.or (op_neD hu)) fun x y H Q q => by
  cases x <;> cases y <;> first
    | exact .inr q.ex
    | (refine .inl ⟨rfl, ?_⟩; refine Eq.mp (congrArg (fun b => Q (V.bl b) H) ?_) q; simp)
/-! ### comparisons as tests, chains -/
def isB (Q : Bool → Hp → Prop) : VK := fun z H => match z with
  | .bl k => Q k H
  | _ => False
theorem isB_ex {Q : Bool → Hp → Prop} {z : V} {H : Hp} (h : isB Q z H) : ∃ k, z = .bl k ∧ Q k H := by
  cases z <;> try exact h.elim
  exact ⟨_, rfl, h⟩
def dCmpT (r : R2) (ta tb : TE) : TT := fun σ H Q => ta σ H fun x H1 => tb σ H1 fun y H2 => r x y H2 (isB Q)
theorem pt_cmp {X : Cx} {op : CmpOp} {a b : Expr} {ta tb : TE} {pos : Pos} {r : R2} (ho : OpR X (compareOp op) r) (ha : PE X a ta) (hb : PE X b tb) (hm : behindInMarks op b = false) : PT X (.Compare a [op] [b] pos) (dCmpT r ta tb) := by
  refine ⟨fun pins s σ H Q I h => ?_⟩
  refine wpAny_isTrue_Compare1 (thn (ha.run pins s σ H _ I h) fun v s1 ⟨x, H1, I1, r1, q1⟩ => thn (hb.run pins s1 σ H1 _ I1 q1) fun u s2 ⟨y, H2, I2, r2, q2⟩ =>
    thn (ho pins s2 σ H2 x y v u _ I2 r1 r2 q2) fun c s3 ⟨z, H3, I3, r3, q3⟩ => ?_) hm
  obtain ⟨k, e, q3⟩ := isB_ex q3
  subst e
  cases r3
  exact wpAny_truthy_bool ⟨H3, I3, q3⟩
theorem pe_cmp {X : Cx} {op : CmpOp} {a b : Expr} {ta tb : TE} {pos : Pos} {r : R2} (ho : OpR X (compareOp op) r) (ha : PE X a ta) (hb : PE X b tb) (hm : behindInMarks op b = false) : PE X (.Compare a [op] [b] pos) (tOp r ta tb) := pe_cmpR ho ha hb hm
theorem pw_and {X : Cx} {a b : Expr} {rest : List Expr} {tA tB' : TT} {pos : Pos} (ha : PT X a tA) (hb : PW X (.BoolOp .And (b :: rest) pos) tB') : PW X (.BoolOp .And (a :: b :: rest) pos) (dAnd tA tB') := by
  refine ⟨fun wh pins s σ H Q I h => ?_⟩
  refine isTrue_and (thn (ha.run pins s σ H _ I h) fun c s1 ⟨H1, I1, q1⟩ => ?_)
  cases c with
  | true => exact hb.run wh pins s1 σ H1 Q I1 q1
  | false => exact ⟨H1, I1, q1⟩
theorem pw_or {X : Cx} {a b : Expr} {rest : List Expr} {tA tB' : TT} {pos : Pos} (ha : PT X a tA) (hb : PW X (.BoolOp .Or (b :: rest) pos) tB') : PW X (.BoolOp .Or (a :: b :: rest) pos) (dOr tA tB') := by
  refine ⟨fun wh pins s σ H Q I h => ?_⟩
  refine isTrue_or (thn (ha.run pins s σ H _ I h) fun c s1 ⟨H1, I1, q1⟩ => ?_)
  cases c with
  | true => exact ⟨H1, I1, q1⟩
  | false => exact hb.run wh pins s1 σ H1 Q I1 q1
theorem pt_not {X : Cx} {a : Expr} {tA : TT} {pos : Pos} (ha : PT X a tA) : PT X (.UnaryOp .Not a pos) (dNot tA) := L2.pt_not ha
theorem ps_if {X : Cx} {c : Expr} {a b : List Stmt} {tc : TT} {t u : TS} {pos : Pos} (hc : PT X c tc) (ha : PSs X a t) (hb : PSs X b u) : PS X (.If c a b pos) (dIfS tc t u) := by
  refine ⟨fun pins s σ H D I h => ?_⟩
  refine wpAny_If (thn (hc.run pins s σ H _ I h) fun d s1 ⟨H1, I1, q1⟩ => ?_)
  cases d with
  | true => exact ha.run pins s1 σ H1 D I1 q1
  | false => exact hb.run pins s1 σ H1 D I1 q1
/-- and, or as values: all but the last True or False -/
def dAndV (ta tb : TE) : TE := fun σ H Q => ta σ H (isB fun c H1 => bIf c (tb σ H1 Q) (Q (.bl false) H1))
theorem pe_and {X : Cx} {a b : Expr} {rest : List Expr} {ta tb : TE} {pos : Pos} (ha : PE X a ta) (hb : PE X (.BoolOp .And (b :: rest) pos) tb) : PE X (.BoolOp .And (a :: b :: rest) pos) (dAndV ta tb) := by
  refine ⟨fun pins s σ H Q I h => ?_⟩
  refine BoolOp_and (thn (ha.run pins s σ H _ I h) fun v s1 ⟨x, H1, I1, r1, q1⟩ => ?_)
  obtain ⟨c, e, q⟩ := isB_ex q1
  subst e
  cases r1
  refine wpAny_truthy_bool ?_
  cases c with
  | true => exact hb.run pins s1 σ H1 Q I1 q
  | false => exact ⟨.bl false, H1, I1, rfl, q⟩
/-! ### subscripts, slices -/
/-- the sign at i -/
structure AtS (z : Str) (i : Int) (k : Nat → Prop) : Prop where
  ex : ∃ c, atI z.cps.toList i = some c ∧ k c
def oIx (K : Frag) : R2 := fun x y H Q => match x, y with
  | .ref p, .int i => Rd K H p fun xs => At xs i fun v => Q v H
  | .str z, .int i => Need (z.length ≤ sizeLine) (AtS z i fun c => Q (.str ⟨#[c]⟩) H)
  | _, _ => False
theorem ix_any {X : Cx} : IxR X (oIx X.K) := IxR.of ix_seq fun x y H Q q => by
  cases x <;> cases y <;> try exact q.elim
  · obtain ⟨hz, ⟨c, e, q⟩⟩ := q
    exact .inr (.inr ⟨_, _, c, rfl, rfl, hz, e, q⟩)
  · obtain ⟨⟨xs, hs, ⟨v, e, q⟩⟩⟩ := q
    rcases hs with hs | hs
    · exact .inl ⟨_, xs, _, v, rfl, rfl, hs, e, q⟩
    · exact .inr (.inl ⟨_, xs, _, v, rfl, rfl, hs, e, q⟩)
/-! ### displays -/
def dLst (t : TA) : TE := fun σ H Q => t σ H fun xs H1 => Need (xs.length ≤ sizeLine) (NewL H1 xs Q)
def dTup (K : Frag) (t : TA) : TE := fun σ H Q => t σ H fun xs H1 => Need (xs.length ≤ sizeLine) (NewT K H1 xs Q)
theorem pe_tup {X : Cx} {es : List Expr} {t : TA} {x1} {pos : Pos} (h : PA X es t) : PE X (.Tuple es x1 pos) (dTup X.K t) := by
  refine ⟨fun pins s σ H Q I hq => ?_⟩
  refine wpAny_Tuple_spliced (thn (h.run pos pins s σ H _ I hq) fun us s1 ⟨xs, H1, I1, r, ⟨z, ⟨q⟩⟩⟩ => ⟨by rw [← r.length]; exact z, ?_⟩)
  have hf : H1 s1.heap.objs.size = none := I1.hok.fresh (Nat.le_refl _)
  refine ⟨.ref s1.heap.objs.size, upd H1 s1.heap.objs.size (.tup xs), I1.laid (t' := s1.toks) (fun b u e => Heap.get?_push_of_some _ e) (Nat.le_refl _) ?_, rfl, q _ _ (same_new hf) (SqT.of upd_same)⟩
  exact ⟨z, us, r, ⟨_, Heap.get?_push_size _ rfl, rfl, _, rfl⟩⟩
theorem pe_lst {X : Cx} {es : List Expr} {t : TA} {pos : Pos} (h : PA X es t) : PE X (.List es pos) (dLst t) := by
  refine ⟨fun pins s σ H Q I hq => ?_⟩
  refine wpAny_List_spliced (thn (h.run pos pins s σ H _ I hq) fun us s1 ⟨xs, H1, I1, r, ⟨z, ⟨q⟩⟩⟩ => ⟨by rw [← r.length]; exact z, ?_⟩)
  have hf : H1 s1.heap.objs.size = none := I1.hok.fresh (Nat.le_refl _)
  refine ⟨.ref s1.heap.objs.size, upd H1 s1.heap.objs.size (.lst xs), I1.laid (t' := s1.toks) (fun b u e => Heap.get?_push_of_some _ e) (Nat.le_refl _) ?_, rfl, q _ hf⟩
  exact ⟨z, us, 0, r, Heap.get?_push_size _ rfl⟩
/-! ### builtin calls -/
def cLen (K : Frag) : List V → Hp → VK → Prop := fun xs H Q => match xs with
  | [.str z] => Need (z.length ≤ sizeLine) (Q (.int z.length) H)
  | [.ref p] => Rd K H p fun ys => Q (.int ys.length) H
  | _ => False
theorem c_len {X : Cx} : CallR X (.builtin "len") (cLen X.K) := CallR.of (call_len_seq.or call_len_str) fun xs H Q q => by
  match xs, q with
  | [.str z], q => exact .inr ⟨z, rfl, q.c, q.q⟩
  | [.ref p], ⟨⟨ys, h, q⟩⟩ => exact .inl ⟨p, ys, rfl, h, q⟩
def cTuple (K : Frag) : List V → Hp → VK → Prop := fun xs H Q => match xs with
  | [.ref p] => Rd K H p fun ys => NewT K H ys Q
  | _ => False
theorem c_tuple {X : Cx} : CallR X (.type "tuple") (cTuple X.K) := CallR.of call_tuple_of fun xs H Q q => by
  match xs, q with
  | [.ref p], ⟨⟨ys, h, ⟨q⟩⟩⟩ =>
    refine ⟨p, ys, rfl, ?_⟩
    rcases h with h | h
    · exact .inl ⟨h, fun l hl => q _ _ (same_new hl) (SqT.of upd_same)⟩
    · exact .inr ⟨h, q _ _ (Same.refl _) h⟩
def cList (K : Frag) : List V → Hp → VK → Prop := fun xs H Q => match xs with
  | [.ref p] => Rd K H p fun ys => NewL H ys Q
  | _ => False
theorem c_list {X : Cx} : CallR X (.type "list") (cList X.K) := CallR.of call_list_of fun xs H Q q => by
  match xs, q with
  | [.ref p], ⟨⟨ys, h, ⟨q⟩⟩⟩ => exact ⟨p, ys, rfl, h, q⟩
def b2i (b : Bool) : Int := match b with
  | true => 1
  | false => 0
def cInt : List V → Hp → VK → Prop := fun xs H Q => match xs with
  | [.int i] => Q (.int i) H
  | [.bl b] => Q (.int (b2i b)) H
  | _ => False
theorem c_int {X : Cx} : CallR X (.type "int") cInt := CallR.of call_int1 fun xs H Q q => by
  match xs, q with
  | [.int i], q => exact .inl ⟨_, rfl, q⟩
  | [.bl b], q =>
    refine .inr ⟨_, rfl, ?_⟩
    cases b <;> exact q
def cAbs : List V → Hp → VK → Prop := fun xs H Q => match xs with
  | [.int i] => Q (.int (i.natAbs : Int)) H
  | _ => False
theorem c_abs {X : Cx} : CallR X (.builtin "abs") cAbs := CallR.of call_abs fun xs H Q q => by
  match xs, q with
  | [.int i], q =>
    refine ⟨_, rfl, ?_⟩
    have e : (if i < 0 then -i else i) = (i.natAbs : Int) := by split <;> omega
    rw [e]; exact q
/-- isinstance(x, T), one class -/
structure Isi (K : Frag) (H : Hp) (x : V) (u : Value) (k : Bool → Prop) : Prop where
  ex : (∃ t b, TyX K H x t ∧ PySem.W.kitOne K t u = some b ∧ k b) ∨ (∃ a C dx vs b, x = .ref a ∧ SlX.Slt H a C dx vs ∧ SlX.SCls K C ∧ SlX.SIsi K C ∧ PySem.W.kitOne K (.ref C) u = some b ∧ k b)
theorem Isi.of {K : Frag} {H : Hp} {x : V} {u t : Value} {b : Bool} {k : Bool → Prop} (h : TyX K H x t) (e : PySem.W.kitOne K t u = some b) (q : k b) : Isi K H x u k := ⟨.inl ⟨t, b, h, e, q⟩⟩
/-! ### methods of lists -/
/-- a list stands at p -/
structure IsL (K : Frag) (H : Hp) (p : Addr) (q : Prop) : Prop where
  ex : ∃ xs, SqL K H p xs
  q : q
theorem IsL.of {K : Frag} {H : Hp} {p : Addr} {q : Prop} {xs : List V} (h : H p = some (.lst xs)) (q1 : q) : IsL K H p q := ⟨⟨xs, SqL.of h⟩, q1⟩
def dML (K : Frag) (r : V → List V → Hp → VK → Prop) (to : TE) (t : TA) : TE := fun σ H Q => to σ H fun x H1 => match x with
  | .ref l => IsL K H1 l (t σ H1 fun vs H2 => r (.ref l) vs H2 Q)
  | _ => False
theorem pe_ml {X : Cx} {o e : Expr} {es : List Expr} {to : TE} {t : TA} {name : Str} {apos cpos : Pos} {id : String} {r : V → List V → Hp → VK → Prop} (slot : Slot "list" name id) (hty : typeOf (.builtin id) = pure (.type "method_descriptor")) (hm : MtR X id r) (ho : PE X o to) (ha : PA X (e :: es) t)
    (hbase : attributeBase o name X.env (eval o X.env) = eval o X.env := by rfl)
    (hfew : ((backTo cpos (starEach (e :: es) X.env)).all (fun x => !x.1) && (backToKw cpos (keywordEach [] X.env)).all (fun x => x.1.isSome)
      && decide ((e :: es).length + ([] : List Keyword).length + (if ([] : List Keyword).isEmpty then 0 else 1) < 30)) = true := by rfl)
    (hline : (apos.endLine == cpos.line) = true := by rfl) (hs : starEach (e :: es) X.env = (false, eval e X.env) :: starEach es X.env := by rfl) (hplain : (backTo cpos (starEach es X.env)).any (·.1) = false := by rfl) :
    PE X (.Call (.Attribute o name apos) (e :: es) [] cpos) (dML X.K r to t) := by
  refine ⟨fun pins s σ H Q I h => ?_⟩
  refine wpAny_Call_method_late hbase hfew hline rfl (thn (ho.run pins s σ H _ I h) fun v s1 ⟨x, H1, I1, r1, q1⟩ => ?_)
  cases x <;> try exact q1.elim
  obtain ⟨hx, q1⟩ := q1
  obtain ⟨h1, h2⟩ := tyV_is (T := "list") I1 r1 (.inl ⟨rfl, hx⟩)
  refine ⟨"list", id, PySem.F.plainAttrs_list, slot, hty, h1, h2, ?_⟩
  have hA := ha.run cpos pins s1 σ H1 _ I1 q1
  rw [hs] at hA ⊢
  refine Calls.callWith_builtin (by show (false || (backTo cpos (starEach es X.env)).any (·.1)) = false; rw [hplain] <;> rfl) (Calls.evalArgs_plain ?_)
  exact thn hA fun us s2 ⟨vs, H2, I2, r2, q2⟩ => hm pins s2 σ H2 _ vs _ us Q I2 r1 r2 q2
theorem pe_ml0 {X : Cx} {o : Expr} {to : TE} {name : Str} {apos cpos : Pos} {id : String} {r : V → List V → Hp → VK → Prop} (slot : Slot "list" name id) (hty : typeOf (.builtin id) = pure (.type "method_descriptor")) (hm : MtR X id r) (ho : PE X o to)
    (hbase : attributeBase o name X.env (eval o X.env) = eval o X.env := by rfl) (hline : (apos.endLine == cpos.line) = true := by rfl) : PE X (.Call (.Attribute o name apos) [] [] cpos) (dML X.K r to tNil) := by
  refine ⟨fun pins s σ H Q I h => ?_⟩
  refine wpAny_Call_method0_late hbase hline (thn (ho.run pins s σ H _ I h) fun v s1 ⟨x, H1, I1, r1, q1⟩ => ?_)
  cases x <;> try exact q1.elim
  obtain ⟨hx, q1⟩ := q1
  obtain ⟨h1, h2⟩ := tyV_is (T := "list") I1 r1 (.inl ⟨rfl, hx⟩)
  exact ⟨"list", id, PySem.F.plainAttrs_list, slot, hty, h1, h2, Calls.callWith_builtin rfl (PySem.evalArgs_none (hm pins s1 σ H1 _ [] _ [] Q I1 r1 .nil q1))⟩
theorem MtR.of {X : Cx} {id : String} {r r' : V → List V → Hp → VK → Prop} (h : MtR X id r) (i : ∀ x xs H Q, r' x xs H Q → r x xs H Q) : MtR X id r' := fun pins s σ H x xs v us Q I rx rs q => h pins s σ H x xs v us Q I rx rs (i x xs H Q q)
abbrev M2 := V → List V → Hp → VK → Prop
/-- the list at x changed -/
def mL (f : List V → List V → Hp → (V → List V → Prop) → Prop) : M2 := fun x vs H Q => match x with
  | .ref l => Ls H l fun xs => f xs vs H fun z ys => Q z (upd H l (.lst ys))
  | _ => False
def mApp : M2 := mL fun xs vs _ k => match vs with
  | [y] => Need (xs.length < sizeLine) (k .non (xs ++ [y]))
  | _ => False
theorem m_app {X : Cx} : MtR X "list.append" mApp := MtR.of mt_append fun x vs H Q q => by
  cases x <;> try exact q.elim
  match vs, q with
  | [y], ⟨⟨xs, h, ⟨hz, q⟩⟩⟩ => exact ⟨_, xs, y, rfl, rfl, h, hz, q⟩
def mRev : M2 := mL fun xs vs _ k => match vs with
  | [] => k .non xs.reverse
  | _ => False
theorem m_rev {X : Cx} : MtR X "list.reverse" mRev := MtR.of mt_reverse fun x vs H Q q => by
  cases x <;> try exact q.elim
  match vs, q with
  | [], ⟨⟨xs, h, q⟩⟩ => exact ⟨_, xs, rfl, rfl, h, q⟩
/-! ### stores -/
/-- the place i in n -/
structure Pl (n : Nat) (i : Int) (k : Nat → Prop) : Prop where
  ex : ∃ j, ixN n i = some j ∧ k j
theorem Pl.of {n : Nat} {i : Int} {k : Nat → Prop} {j : Nat} (h : ixN n i = some j) (q : k j) : Pl n i k := ⟨j, h, q⟩
def oSet : V → V → V → Hp → (Hp → Prop) → Prop := fun o i v H Q => match o, i with
  | .ref p, .int k => Ls H p fun xs => Pl xs.length k fun j => Q (upd H p (.lst (xs.set j v)))
  | _, _ => False
theorem s_list {X : Cx} : PSet X oSet := fun pins s σ H o i v uo ui uv Q I ro ri rv q => by
  cases o <;> cases i <;> try exact q.elim
  obtain ⟨⟨xs, h, ⟨j, e, q⟩⟩⟩ := q
  exact set_list pins s σ H _ _ v uo ui uv Q I ro ri rv ⟨_, xs, _, j, rfl, rfl, h, e, q⟩
/-! ### loops over a list or a tuple -/
/-- the list or the tuple at a is walked -/
structure Walk (K : Frag) (H : Hp) (a : Addr) (R : It → Hp → Prop) : Prop where
  ex : ((∃ xs, SqL K H a xs) ∧ R (Itl K a) H) ∨ ((∃ xs, SqT K H a xs) ∧ R (Itt K a) H)
def iSm (K : Frag) (x : V) (H : Hp) (R : It → Hp → Prop) : Prop := match x with
  | .ref a => Walk K H a R
  | _ => False
def iSeq (K : Frag) (tl : TE) : TI := fun σ H R => tl σ H fun x H1 => iSm K x H1 R
theorem pi_seq {X : Cx} {tg l : Expr} {tl : TE} (hl : PE X l tl) : PI X tg l (iSeq X.K tl) := by
  refine ⟨fun pins s σ H R I h => ?_⟩
  refine thn (hl.run pins s σ H _ I h) fun v s1 ⟨x, H1, I1, r1, q1⟩ => ?_
  cases x <;> try exact q1.elim
  cases r1
  rcases q1.ex with ⟨⟨xs, hq⟩, q⟩ | ⟨⟨xs, hq⟩, q⟩
  · obtain ⟨its, rv, p, hz⟩ := I1.list hq
    refine wpAny_pyIter_list p.isList ?_
    refine ⟨s1.heap.objs.size, [s1.heap.objs.size], _, _, H1, rfl, I1.kept (t' := s1.toks) fun b o e => Heap.get?_push_of_some _ e, turn_list _ _, ⟨_, Heap.get?_push_size _ rfl, rfl, rfl⟩, fun b hb => ?_, q⟩
    have e : b = s1.heap.objs.size := by simpa using hb
    subst e
    exact I1.fpOk (Nat.le_refl _) (I1.hok.fresh (Nat.le_refl _))
  · obtain ⟨its, rv, p, hz⟩ := I1.tuple hq
    refine wpAny_pyIter_tuple (show s1.heap.IsTuple _ its.toArray from p) ?_
    refine ⟨s1.heap.objs.size, [s1.heap.objs.size], _, _, H1, rfl, I1.kept (t' := s1.toks) fun b o e => Heap.get?_push_of_some _ e, turn_tuple _ _, ⟨_, Heap.get?_push_size _ rfl, rfl, rfl⟩, fun b hb => ?_, q⟩
    have e : b = s1.heap.objs.size := by simpa using hb
    subst e
    exact I1.fpOk (Nat.le_refl _) (I1.hok.fresh (Nat.le_refl _))
/-- what a loop asks of its walk -/
def LoopR (D : Ends) (g : TG) (tb : TS) (σ : L2.St) : It → Hp → Prop := fun J H1 => ∃ W : Nat → Nat → L2.St → Hp → Prop, (∃ m, W 0 m σ H1) ∧ ∀ i m σ H, W i m σ H →
  (J.stop i H ∧ D.nx σ H) ∨ (J.go i H ∧ ∃ N : L2.St → Hp → Prop, (∀ σ' H', N σ' H' → ∃ m', m' < m ∧ W (i + 1) m' σ' H') ∧ ∀ x H', J.yld i H x H' → g x σ H' fun σ2 H2 => tb { D with nx := N, ct := N, bk := D.nx } σ2 H2)
def dFor (wi : TI) (g : TG) (tb : TS) : TS := fun D σ H => wi σ H (LoopR D g tb σ)
theorem ps_for {X : Cx} {tg iter : Expr} {body : List Stmt} {wi : TI} {g : TG} {tb : TS} {pos : Pos} (hp : PassesOwn (model X.prog X.w) X.A X.env X.xe) (hc : X.calm = true) (hi : PI X tg iter wi) (hg : PG X tg g) (hb : PSs X body tb)
    (hs : ∀ x, foldedSetIterable iter X.env x = pure x := by intro _; rfl) : PS X (.For tg iter body [] pos) (dFor wi g tb) := L2.ps_for hp hc hi hg hb hs
/-- the sequence at p stands as it stood -/
def Stay (K : Frag) (p : Addr) (H H' : Hp) : Prop := ∀ xs, (SqL K H p xs → SqL K H' p xs) ∧ (SqT K H p xs → SqT K H' p xs)
theorem Same.tup {K : Frag} {H H' : Hp} {a : Addr} {xs : List V} (e : Same H H') (h : SqT K H a xs) : SqT K H' a xs := by
  rcases h with (h | ⟨o, h⟩) | h
  · exact .inl (.inl (e _ _ h))
  · exact .inl (.inr ⟨o, e _ _ h⟩)
  · exact .inr h
theorem Same.sqa {K : Frag} {H H' : Hp} {a : Addr} {xs : List V} (e : Same H H') (h : SqA K H a xs) : SqA K H' a xs := h.imp e.seq (Same.tup e)
theorem Same.stay {K : Frag} {H H' : Hp} {a : Addr} (e : Same H H') : Stay K a H H' := fun _ => ⟨e.seq, Same.tup e⟩
/-- all but what stands at st stays -/
def SameX (st : Addr) (H H' : Hp) : Prop := ∀ b o, H b = some o → b ≠ st → H' b = some o
theorem SameX.refl (st : Addr) (H : Hp) : SameX st H H := fun _ _ h _ => h
theorem SameX.trans {st : Addr} {H H1 H2 : Hp} (a : SameX st H H1) (b : SameX st H1 H2) : SameX st H H2 := fun c o h n => b c o (a c o h n) n
theorem SameX.then {st : Addr} {H H1 H2 : Hp} (a : SameX st H H1) (b : Same H1 H2) : SameX st H H2 := fun c o h n => b c o (a c o h n)
theorem Same.thenX {st : Addr} {H H1 H2 : Hp} (a : Same H H1) (b : SameX st H1 H2) : SameX st H H2 := fun c o h n => b c o (a c o h) n
theorem Same.x {st : Addr} {H H1 : Hp} (a : Same H H1) : SameX st H H1 := fun c o h _ => a c o h
theorem SameX.upd {st : Addr} {H : Hp} {o : HO} : SameX st H (upd H st o) := fun b u h n => by rw [upd_ne n]; exact h
/-- what st was made behind H0 -/
theorem SameX.same {st : Addr} {H0 H H' : Hp} (a : Same H0 H) (b : SameX st H H') (n : H0 st = none) : Same H0 H' := fun c o h => b c o (a c o h) (ne_of_none h n)
theorem SameX.seq {K : Frag} {st : Addr} {H H' : Hp} {a : Addr} {xs : List V} (e : SameX st H H') (h : SqL K H a xs) (n : a ≠ st) : SqL K H' a xs := by
  rcases h with (h | ⟨o, h⟩) | h
  · exact .inl (.inl (e _ _ h n))
  · exact .inl (.inr ⟨o, e _ _ h n⟩)
  · exact .inr h
theorem SameX.tup {K : Frag} {st : Addr} {H H' : Hp} {a : Addr} {xs ys : List V} (e : SameX st H H') (h : SqT K H a xs) (hst : H st = some (.lst ys)) : SqT K H' a xs := by
  rcases h with (h | ⟨o, h⟩) | h
  · exact .inl (.inl (e _ _ h (ne_of h hst (by intro z; cases z))))
  · exact .inl (.inr ⟨o, e _ _ h (ne_of h hst (by intro z; cases z))⟩)
  · exact .inr h
theorem sl_upd {K : Frag} {H : Hp} {a p : Addr} {o : HO} {xs : List V} (h : SqL K H a xs) (n : a ≠ p) : SqL K (upd H p o) a xs := by
  rcases h with (h | ⟨u, h⟩) | h
  · exact .inl (.inl (by rw [upd_ne n]; exact h))
  · exact .inl (.inr ⟨u, by rw [upd_ne n]; exact h⟩)
  · exact .inr h
theorem st_upd {K : Frag} {H : Hp} {a p : Addr} {o : HO} {xs : List V} (h : SqT K H a xs) (n : a ≠ p) : SqT K (upd H p o) a xs := by
  rcases h with (h | ⟨u, h⟩) | h
  · exact .inl (.inl (by rw [upd_ne n]; exact h))
  · exact .inl (.inr ⟨u, by rw [upd_ne n]; exact h⟩)
  · exact .inr h
theorem up_of {H : Hp} {a p : Addr} {o u : HO} (n : a ≠ p) (h : H a = some u) : upd H p o a = some u := by rw [upd_ne n]; exact h
theorem SameX.put {st : Addr} {H0 H1 : Hp} {o : HO} (e : SameX st H0 H1) : SameX st H0 (L2.upd H1 st o) := e.trans SameX.upd
theorem appS {K : Frag} {H H1 : Hp} {a st : Addr} {xs : List V} (h : ∀ H1, SameX st H H1 → SqL K H1 a xs) (e : SameX st H H1) : SqL K H1 a xs := h H1 e
/-! ### ranges -/
def iR1 (vs : List V) (H : Hp) (R : It → Hp → Prop) : Prop := match vs with
  | [.int j] => Need (-(2 ^ 62) ≤ j ∧ j < 2 ^ 62) (R (Itr 0 j.toNat) H)
  | _ => False
def iRng (ta : TA) : TI := fun σ H R => ta σ H fun vs H1 => iR1 vs H1 R
theorem pi_rng {X : Cx} {tg a : Expr} {ta : TA} {p pos : Pos} (hg : Gl X "range") (hm : X.mg "range" = none) (ha : PA X [a] ta) (hs : starEach [a] X.env = [(false, eval a X.env)] := by rfl) : PI X tg (.Call (.Name "range" p) [a] [] pos) (iRng ta) := by
  refine ⟨fun pins s σ H R I h => ?_⟩
  refine Call_ (ld_blt I hg hm boot_range (PyProof.Rows.callWith_type1 (thn (ha.run pos pins s σ H _ I h) fun us s1 ⟨vs, H1, I1, r1, q1⟩ => ?_) hs rfl))
  match vs, q1 with
  | [.int j], ⟨⟨q1, q2⟩, q⟩ =>
    cases r1 with
    | cons r rr =>
      cases rr
      obtain ⟨t, rfl⟩ := r
      exact call_range_1 (range_it I1 (by omega) (by omega) q1 q2 (by simpa using q))
theorem for_rng {n : Int} {g : TG} {tb : TS} {D : Ends} {σ : L2.St} {H : Hp} (Pv : Nat → L2.St → Hp → Prop) (h0 : Pv 0 σ H)
    (hs : ∀ (i : Nat) σ H, (i : Int) < n → Pv i σ H → g (.int i) σ H fun σ2 H2 => tb { D with nx := Pv (i + 1), ct := Pv (i + 1), bk := D.nx } σ2 H2) (hd : ∀ σ H, Pv n.toNat σ H → D.nx σ H) :
    LoopR D g tb σ (Itr 0 n.toNat) H := by
  refine L2.for_range (lo := 0) Pv h0 (fun i σ H hi q => ?_) hd
  have z := hs i σ H (by omega) q
  rw [Int.zero_add]; exact z
/-! ### while -/
/-! ### calls of the module's defs, by positional promises -/
/-- f(e, ..): what is raised is wished for at the caller's slots -/
def dCall (sp : Sp) (E : L2.St → XK) (t : TA) : TE := fun σ H Q => t σ H fun vs H1 => sp vs H1 Q (E σ)
section
variable {X : Cx} {k : Nat} {g : Addr} {sp : Sp} {E : L2.St → XK} {x : Str} {p pos : Pos} {e : Expr} {es : List Expr} {t : TA}
theorem run_R {pins : List (Addr × Obj)} {σ : L2.St} {H : Hp} {s : Shared} {Q : VK} {us : List Value} {vs : List V} (F : FnR X.prog X.w X.K X.mg X.base (L2.CX X.prog X.w) k g sp) (hr : Room k X.A) (hx : PassesAt (L2.CX X.prog X.w) X σ (E σ))
    (I : Inv X pins σ H s) (r : Vals vs us) (h : sp vs H Q (E σ)) : wpAny (model X.prog X.w) X.A (call (.ref g) us) (EP X pins σ Q) X.xe s := by
  refine wpAny_call (codeAny_mono (F X.A X.stack s H us vs Q (E σ) hr I.env0 r h) fun r s' hq => ?_)
  cases r with
  | error e => exact hx pins H s e s' I hq
  | ok fl =>
    cases fl with
    | ret u => exact I.after hq
    | next => exact False.elim hq
    | brk => exact False.elim hq
    | cont => exact False.elim hq
theorem pe_call (F : FnR X.prog X.w X.K X.mg X.base (L2.CX X.prog X.w) k g sp) (hr : Room k X.A) (hm : X.mg x = some (.ref g)) (hk : PySem.W.keepIn X.K (.ref g) = true) (hx : ∀ σ, PassesAt (L2.CX X.prog X.w) X σ (E σ))
    (ha : PA X (e :: es) t) (hg : Gl X x := by rfl) (hdb : (x == ("__debug__" : Str)) = false := by decide) (he : starEach (e :: es) X.env = (false, eval e X.env) :: starEach es X.env := by rfl) (hpl : (backTo pos (starEach es X.env)).any (·.1) = false := by rfl) :
    PE X (.Call (.Name x p) (e :: es) [] pos) (dCall sp E t) := by
  refine ⟨fun pins s σ H Q I h => ?_⟩
  refine wpAny_Call_Name_kw (ld_glob I hg hm ?_ hdb)
  refine PySem.W.callWith_K (h₀ := X.base) I.ok.mod.kin hk (thn (ha.run pos pins s σ H _ I h) fun us s1 ⟨vs, H1, I1, r, q⟩ => ⟨I1.kIn, ?_⟩) he hpl
  exact run_R F hr (hx σ) I1 r q
end
/-- f(e, ..), f a built-in function | type -/
theorem pe_cb {X : Cx} {x : Str} {p pos : Pos} {e : Expr} {es : List Expr} {t : TA} {id : String} {r : List V → Hp → VK → Prop} (hc : CallR X (.builtin id) r) (hm : X.mg x = none) (hv : bootBuiltins x = some (.builtin id)) (ha : PA X (e :: es) t) (hg : Gl X x := by rfl) (hn : x ≠ "__name__" := by decide) (hdb : (x == ("__debug__" : Str)) = false := by decide)
    (he : starEach (e :: es) X.env = (false, eval e X.env) :: starEach es X.env := by rfl) (hpl : (backTo pos (starEach es X.env)).any (·.1) = false := by rfl) : PE X (.Call (.Name x p) (e :: es) [] pos) (tCB r t) := pe_callB hc hg hm hv ha hn hdb he hpl
theorem pe_ct {X : Cx} {x : Str} {p pos : Pos} {e : Expr} {es : List Expr} {t : TA} {T : String} {r : List V → Hp → VK → Prop} (hc : CallR X (.type T) r) (hm : X.mg x = none) (hv : bootBuiltins x = some (.type T)) (ha : PA X (e :: es) t) (hg : Gl X x := by rfl) (hn : x ≠ "__name__" := by decide) (hdb : (x == ("__debug__" : Str)) = false := by decide)
    (he : starEach (e :: es) X.env = (false, eval e X.env) :: starEach es X.env := by rfl) (hpl : (backTo pos (starEach es X.env)).any (·.1) = false := by rfl) : PE X (.Call (.Name x p) (e :: es) [] pos) (tCB r t) := pe_callTy hc hg hm hv ha hn hdb he hpl
/-! ### a def by its body -/
section
variable {P : Program} {w : World} {K : Frag} {mg : Str → Option Value} {base : Heap}
abbrev FR (P : Program) (w : World) (K : Frag) (mg : Str → Option Value) (base : Heap) (k : Nat) (f : Addr) (sp : Sp) : Prop := FnR P w K mg base (L2.CX P w) k f sp
/-- the context of a def's body -/
abbrev cxD (P : Program) (w : World) (K : Frag) (mg : Str → Option Value) (base : Heap) (N : List Str) (qual : Str) (scope : Scope) (f : Addr) (cd : Value) (A : Around) (outer : List Env) (s : Shared) (H : Hp) (E : XK) : Cx := cxOf (L2.CX P w) P w K mg base N qual scope f cd A outer s H E
theorem mk_fn {x qual : Str} {params : Arguments} {body : List Stmt} {scope : Scope} {f : Addr} {fd : FuncData} {N ps : List Str} {k : Nat} {sp : Sp} (F : FunD K x qual params body scope [] [] f fd) (S : FnScope N ps scope) (len : ∀ vs H Q E, sp vs H Q E → vs.length = ps.length)
    (hb : ∀ (kV doc pm : Value) (an : Option Addr) (cdv ct : Value) (us : List Value), us.length = ps.length → bindArgs (PySem.W.fnOf x qual params body scope .none kV doc pm an cdv ct) ⟨us, []⟩ = pure (ps.zip us)) {t : XK → TS}
    (hbody : ∀ (cdv : Value) (A : Around) (outer : List Env) (s : Shared) (H : Hp) (E : XK), Room k (A.deeper (envOfC qual scope s.heap.objs.size f cdv)) →
      PSs (cxD P w K mg base N qual scope f cdv A outer s H E) body (t E))
    (pure : ∀ vs H Q E, sp vs H Q E → t E { nx := fun _ H' => Q .non H', rt := Q } (start N vs) H) : FR P w K mg base (k + 1) f sp := by
  have z := (FunD.ok (P := P) (w := w) (mg := mg) (base := base) (CX := L2.CX P w) (sp := sp) F S len fun cdv A outer s H vs Q E hr h => ⟨t E, hbody cdv A outer s H E hr, pure vs H Q E h⟩).raw (F.bindsN hb) .nil
  intro A outer s H us vs Q E hr e0 r hs
  exact z A outer s H us vs Q E hr e0 r (by show sp (vs ++ []) H Q E; rw [List.append_nil]; exact hs)
end
/-- the wish of a def's body: what leaves it leaves the def -/
abbrev EW (E : XK) : L2.St → XK := fun _ => E
theorem passD {P : Program} {w : World} {K : Frag} {mg : Str → Option Value} {base : Heap} {N : List Str} {qual : Str} {scope : Scope} {f : Addr} {cd : Value} {A : Around} {outer : List Env} {s : Shared} {H : Hp} {E : XK} :
    ∀ σ, PassesAt (L2.CX P w) (cxD P w K mg base N qual scope f cd A outer s H E) σ (EW E σ) := fun σ => passAt (takes_of rfl rfl rfl rfl) σ
theorem ownD {P : Program} {w : World} {K : Frag} {mg : Str → Option Value} {base : Heap} {N : List Str} {qual : Str} {scope : Scope} {f : Addr} {cd : Value} {A : Around} {outer : List Env} {s : Shared} {H : Hp} {E : XK} :
    PassesOwn (model P w) (cxD P w K mg base N qual scope f cd A outer s H E).A (cxD P w K mg base N qual scope f cd A outer s H E).env (cxD P w K mg base N qual scope f cd A outer s H E).xe := passes_of rfl
/-! ### named rests: the walk stops there -/
structure Stop (t : TS) (D : Ends) (σ : L2.St) (H : Hp) : Prop where
  go : t D σ H
def stop (t : TS) : TS := fun D σ H => Stop t D σ H
theorem pss_stop {X : Cx} {st : List Stmt} {t : TS} (h : PSs X st t) : PSs X st (stop t) := ⟨fun pins s σ H D I q => h.run pins s σ H D I q.go⟩
/-! ### the law's own def: nothing leaves it -/
theorem passL0 {X : Cx} : ∀ σ, PassesAt (L2.CX X.prog X.w) X σ (EW E0 σ) := fun _ _ _ _ _ _ _ h => by
  obtain ⟨_, _, _, _, _, _, _, _, _, _, _, _, z⟩ := h
  exact z.elim
theorem mk_law {P : Program} {w : World} {K : Frag} {mg : Str → Option Value} {base : Heap} {x qual : Str} {params : Arguments} {body : List Stmt} {scope : Scope} {f : Addr} {fd : FuncData} {N ps : List Str} {k : Nat} {sp : Sp} (F : FunD K x qual params body scope [] [] f fd) (S : FnScope N ps scope) (len : ∀ vs H Q E, sp vs H Q E → vs.length = ps.length)
    {t : XK → TS} (hbody : ∀ (cdv : Value) (A : Around) (outer : List Env) (s : Shared) (H : Hp) (E : XK), Room k (A.deeper (envOfC qual scope s.heap.objs.size f cdv)) →
      PSs (cxOf CX0 P w K mg base N qual scope f cdv A outer s H E).nox body (t E0))
    (pure : ∀ vs H Q E, sp vs H Q E → t E0 { nx := fun _ H' => Q .non H', rt := Q } (start N vs) H) : FnOk P w K mg base CX0 (k + 1) f fd ps sp :=
  FunD.ok F S len fun cdv A outer s H vs Q E hr h => ⟨t E0, PSs.nox (hbody cdv A outer s H E hr), pure vs H Q E h⟩
/-! ### comprehensions with one for -/
structure Wr (R : It → Hp → Prop) (J : It) (H : Hp) : Prop where
  go : R J H
theorem pi_wr {X : Cx} {tg iter : Expr} {wi : TI} (h : PI X tg iter wi) : PI X tg iter (fun σ H R => wi σ H (Wr R)) := ⟨fun pins s σ H R I q =>
  thn (h.run pins s σ H (Wr R) I q) fun _ _ z => thn z fun _ _ ⟨it, fp, tn, J, H', e, I', T, t0, f, r⟩ => ⟨it, fp, tn, J, H', e, I', T, t0, f, r.go⟩⟩
def LcGo (g : TG) (tt : TT) (te : TE) (vs : List Nat) (σ : L2.St) (Q : VK) (J : It) (H1 : Hp) : Prop :=
  ∀ D, H1 D = none → ∃ W : Nat → Nat → Hp → Prop, (∃ m, W 0 m (upd H1 D (.lst []))) ∧ ∀ i m H, W i m H →
    (J.stop i H ∧ Q (.ref D) H) ∨ (J.go i H ∧ ∃ Nx : Hp → Prop, (∀ H', Nx H' → ∃ m', m' < m ∧ W (i + 1) m' H') ∧ ∀ x H', J.yld i H x H' → g x (wipe σ vs) H' fun σ2 H2 => wipe σ2 vs = wipe σ vs ∧ tt σ2 H2 fun b H3 =>
      if b = true then te σ2 H3 fun y H4 => ∃ acc, H4 D = some (.lst acc) ∧ acc.length < sizeLine ∧ Nx (upd H4 D (.lst (acc ++ [y]))) else Nx H3)
def dLc (wi : TI) (g : TG) (tt : TT) (te : TE) (vs : List Nat) : TE := fun σ H Q => wi σ H (Wr (LcGo g tt te vs σ Q))
theorem pe_lc {X : Cx} {elt tg iter : Expr} {ifs : List Expr} {scope : Scope} {own : List (Str × Nat)} {pos : Pos} {wi : TI} {g : TG} {tt : TT} {te : TE} (hc : X.calm = true) (hN : X.N.Nodup) (hi : PI X tg iter wi) (ok : BlkOk X.N X.env.scope scope own)
    (hg : ∀ (s : Shared) (H : Hp) (C : Addr) (cl : List (Str × Addr)) (fp : List Addr), PG (X.blk s H scope (compEnvC scope cl C X.env) fp) tg g) (ht : ∀ (s : Shared) (H : Hp) (C : Addr) (cl : List (Str × Addr)) (fp : List Addr), PTs (X.blk s H scope (compEnvC scope cl C X.env) fp) ifs tt)
    (he : ∀ (s : Shared) (H : Hp) (C : Addr) (cl : List (Str × Addr)) (fp : List Addr), PE (X.blk s H scope (compEnvC scope cl C X.env) fp) elt te) (hs : ∀ x, foldedSetIterable iter X.env x = pure x := by intro _; rfl) :
    PE X (.ListComp elt [⟨tg, iter, ifs, 0⟩] scope pos) (dLc wi g tt te (own.map (·.2))) := L2.pe_lc hc hN (pi_wr hi) ok hg ht he hs
theorem ps_setLc {X : Cx} {i : Nat} {y : Str} {py : Pos} {elt tg iter : Expr} {ifs : List Expr} {scope : Scope} {own : List (Str × Nat)} {pos spos : Pos} {wi : TI} {g : TG} {tt : TT} {te : TE} (hc : X.calm = true) (hN : X.N.Nodup) (hy : X.N[i]? = some y) (hyl : X.env.scope.names.lookup y = some .local)
    (hsw : swapsWith (.ListComp elt [⟨tg, iter, ifs, 0⟩] scope pos) (some (.Name y py)) spos.line X.env = pure true) (hi : PI X tg iter wi) (ok : BlkOk X.N X.env.scope scope own)
    (hg : ∀ (s : Shared) (H : Hp) (C : Addr) (cl : List (Str × Addr)) (fp : List Addr), PG (X.blk s H scope (compEnvC scope cl C X.env) fp) tg g) (ht : ∀ (s : Shared) (H : Hp) (C : Addr) (cl : List (Str × Addr)) (fp : List Addr), PTs (X.blk s H scope (compEnvC scope cl C X.env) fp) ifs tt)
    (he : ∀ (s : Shared) (H : Hp) (C : Addr) (cl : List (Str × Addr)) (fp : List Addr), PE (X.blk s H scope (compEnvC scope cl C X.env) fp) elt te) (hs : ∀ x, foldedSetIterable iter X.env x = pure x := by intro _; rfl) :
    PS X (.Assign [.Name y py] (.ListComp elt [⟨tg, iter, ifs, 0⟩] scope pos) spos) (tAsg (dLc wi g tt te (own.map (·.2))) (gName i)) := L2.ps_setLc hc hN hy hyl hsw (pi_wr hi) ok hg ht he hs
/-- over a list or a tuple, by a word over (turn, heap): the new list stands at D -/
theorem lc_seq {K : Frag} {p : Addr} {xs : List V} {g : TG} {tt : TT} {te : TE} {vs : List Nat} {σ : L2.St} {H1 : Hp} {Q : VK} (hx : SqA K H1 p xs)
    (h : ∀ D, H1 D = none → ∃ Pv : Nat → Hp → Prop, Pv 0 (upd H1 D (.lst [])) ∧ (∀ i H, i ≤ xs.length → Pv i H → ∀ ys, (SqL K H1 p ys → SqL K H p ys) ∧ (SqT K H1 p ys → SqT K H p ys)) ∧
      (∀ i x H, xs[i]? = some x → Pv i H → g x (wipe σ vs) H fun σ2 H2 => wipe σ2 vs = wipe σ vs ∧ tt σ2 H2 fun b H3 =>
        if b = true then te σ2 H3 fun y H4 => ∃ acc, H4 D = some (.lst acc) ∧ acc.length < sizeLine ∧ Pv (i + 1) (upd H4 D (.lst (acc ++ [y]))) else Pv (i + 1) H3) ∧ (∀ H, Pv xs.length H → Q (.ref D) H)) :
    Walk K H1 p (Wr (LcGo g tt te vs σ Q)) := by
  rcases hx with hx | hx
  · refine ⟨.inl ⟨⟨xs, hx⟩, ⟨fun D hD => ?_⟩⟩⟩
    obtain ⟨Pv, h0, hl, hs, hd⟩ := h D hD
    exact lc_list (Qd := fun H => Q (.ref D) H) Pv h0 (fun i H hi q => (hl i H hi q xs).1 hx) hs hd
  · refine ⟨.inr ⟨⟨xs, hx⟩, ⟨fun D hD => ?_⟩⟩⟩
    obtain ⟨Pv, h0, hl, hs, hd⟩ := h D hD
    exact lc_tup (Qd := fun H => Q (.ref D) H) Pv h0 (fun i H hi q => (hl i H hi q xs).2 hx) hs hd
/-- all but lists stays (dicts too) -/
def SameI (H H' : Hp) : Prop := ∀ b o, H b = some o → (∀ l, o ≠ .lst l) → H' b = some o
theorem Same.i {H H' : Hp} (e : Same H H') : SameI H H' := fun b o h _ => e b o h
theorem SameI.trans {H H1 H2 : Hp} (a : SameI H H1) (b : SameI H1 H2) : SameI H H2 := fun c o h n => b c o (a c o h n) n
theorem SameI.lst {H : Hp} {p : Addr} {xs ys : List V} (h : H p = some (.lst xs)) : SameI H (L2.upd H p (.lst ys)) := fun b o hb n => by
  by_cases e : b = p
  · subst e; rw [h] at hb; exact absurd (Option.some.inj hb).symm (n xs)
  · rw [upd_ne e]; exact hb
theorem SameX.i {st : Addr} {H H' : Hp} {xs : List V} (e : SameX st H H') (h : H st = some (.lst xs)) : SameI H H' := fun b o hb n => e b o hb fun z => by
  subst z; rw [h] at hb; exact n xs (Option.some.inj hb).symm
theorem SameI.tup {K : Frag} {H H' : Hp} {a : Addr} {xs : List V} (e : SameI H H') (h : SqT K H a xs) : SqT K H' a xs := by
  rcases h with (h | ⟨o, h⟩) | h
  · exact .inl (.inl (e _ _ h fun _ z => by cases z))
  · exact .inl (.inr ⟨o, e _ _ h fun _ z => by cases z⟩)
  · exact .inr h
end S
namespace S
open PySem PySem.Spec PyProof.Rows L2
/-! ### classes by their names -/
/-- the class x: below the classes ups of the text and the built-in ones tys -/
structure MF (K : Frag) (x : Str) (ups : List Str) (tys : List String) : Prop where
  cd : ∃ cd, PySem.W.clsIn K (He.ga K x) = some cd ∧ cd.name = x ∧ cd.mro = (x :: ups).map (fun y => Value.ref (He.ga K y)) ++ tys.map Value.type
  up : ∀ y ∈ ups, ∃ cd, PySem.W.clsIn K (He.ga K y) = some cd ∧ cd.name = y
  ty : PySem.W.typeIn K (.ref (He.ga K x)) = some (.type "type")
theorem nm_inj {K : Frag} {x y : Str} (h1 : ∃ cd, PySem.W.clsIn K (He.ga K x) = some cd ∧ cd.name = x) (h2 : ∃ cd, PySem.W.clsIn K (He.ga K y) = some cd ∧ cd.name = y) (e : He.ga K x = He.ga K y) : x = y := by
  obtain ⟨c1, e1, n1⟩ := h1
  obtain ⟨c2, e2, n2⟩ := h2
  rw [e, e2] at e1
  cases e1
  exact n1.symm.trans n2
theorem MF.nm {K : Frag} {x : Str} {ups : List Str} {tys : List String} (m : MF K x ups tys) : ∃ cd, PySem.W.clsIn K (He.ga K x) = some cd ∧ cd.name = x := let ⟨cd, a, b, _⟩ := m.cd; ⟨cd, a, b⟩
theorem MF.all {K : Frag} {x : Str} {ups : List Str} {tys : List String} (m : MF K x ups tys) : ∀ y ∈ x :: ups, ∃ cd, PySem.W.clsIn K (He.ga K y) = some cd ∧ cd.name = y := fun y hy => by
  rcases List.mem_cons.mp hy with e | e
  · subst e; exact m.nm
  · exact m.up y e
section
variable {K : Frag} {x y : Str} {ups ups' : List Str} {tys tys' : List String}
theorem mf_sub (m : MF K x ups tys) (b : Value) : PySem.W.subIn K (.ref (He.ga K x)) b = some (decide (b ∈ (x :: ups).map (fun y => Value.ref (He.ga K y)) ++ tys.map Value.type)) := by
  obtain ⟨cd, e, _, hm⟩ := m.cd
  show PySem.W.mroIn K (He.ga K x) b = _
  unfold PySem.W.mroIn
  rw [e, Option.bind_some, hm, if_neg (by simp)]
  congr 1
  rw [Bool.eq_iff_iff]
  simp
theorem mf_cls (m : MF K x ups tys) (n : MF K y ups' tys') : PySem.W.kitCls K (.ref (He.ga K x)) (.ref (He.ga K y)) = some (decide (y ∈ x :: ups)) := by
  obtain ⟨cd, e, _⟩ := n.cd
  show (if ((PySem.W.clsIn K (He.ga K y)).isSome && PySem.W.typeIn K (.ref (He.ga K y)) == some (.type "type")) = true then PySem.W.subIn K (.ref (He.ga K x)) (.ref (He.ga K y)) else none) = _
  rw [if_pos (by rw [e, n.ty]; simp), mf_sub m]
  congr 1
  rw [decide_eq_decide]
  simp only [List.mem_append, List.mem_map]
  constructor
  · rintro (⟨z, hz, e⟩ | ⟨z, _, e⟩)
    · rw [← nm_inj (m.all z hz) n.nm (Value.ref.inj e)]
      exact hz
    · cases e
  · intro h
    exact .inl ⟨y, h, rfl⟩
theorem mf_kit (m : MF K x ups tys) (n : MF K y ups' tys') : PySem.W.kitOne K (.ref (He.ga K x)) (.ref (He.ga K y)) = some (decide (y ∈ x :: ups)) := by
  unfold PySem.W.kitOne
  split
  · rename_i h
    have e := nm_inj m.nm n.nm (Value.ref.inj (beq_iff_eq.mp h))
    subst e
    rw [decide_eq_true (List.mem_cons_self)]
  · exact mf_cls m n
end
/-! ### classes with slots -/
structure CF (K : Frag) (x : Str) (fs : List Str) : Prop where
  mf : MF K x [] ["object"]
  sc : SlX.SCls K (He.ga K x)
  si : SlX.SIsi K (He.ga K x)
  sl : ∀ i f, fs[i]? = some f → SlX.Slot1 K (He.ga K x) f (He.ma K (He.ga K x) f) i
/-! ### the exceptions -/
/-! ### given facts -/
/-! ### attributes -/
/-! ### new instances -/
section
variable {X : Cx} {k : Nat} {g : Addr} {sp : Sp} {E : L2.St → XK} {x c m : Str} {p pos apos : Pos} {e o : Expr} {es : List Expr} {t : TA} {ta : TE}
/-! ### methods of instances with slots -/
end
/-! ### raise, try -/
/-! ### defaults -/
/-! ### functions behind wrappers -/
/-! ### defs by their addresses -/
structure DfX where
  ad : Frag → Addr
  name : Str
  qual : Str
  params : Arguments
  body : List Stmt
  scope : Scope
  dfl : List He.Dv := []
  kwd : List (Str × He.Dv) := []
  clo : List Str := []
def fnX (K : Frag) (a : Addr) : He.FnW := match K.lookup a with
  | some ⟨_, _, .func fd, _⟩ => some (fd.name, fd.qualname, fd.params, fd.body, fd.scope, fd.globals, fd.closure.map (fun c => (c.1, (0 : Addr))), fd.builtins)
  | _ => none
def DfX.val (d : DfX) : He.FnW := some (d.name, d.qual, d.params, .stmts d.body, d.scope, mainGlobals, d.clo.map (fun n => (n, (0 : Addr))), builtinsNs)
def DfX.dvs (K : Frag) (d : DfX) : List V := d.dfl.map (He.Dv.v K)
def DfX.kws (K : Frag) (d : DfX) : List (Str × V) := d.kwd.map fun q => (q.1, q.2.v K)
def DfX.ok (K : Frag) (d : DfX) : Bool := PySem.W.keepIn K (.ref (d.ad K)) && (match K.lookup (d.ad K) with
  | some ⟨_, _, .func fd, _⟩ => PySem.W.codeIn K fd.code d.qual && (He.dflB K fd.defaults (d.dvs K) && He.kwdB K fd.kwdefaults (d.kws K))
  | _ => false)
theorem DfX.funD {K : Frag} {d : DfX} (hclo : d.clo = []) (e : fnX K (d.ad K) = d.val) (c : d.ok K = true) : ∃ fd, FunD K d.name d.qual d.params d.body d.scope (d.dvs K) (d.kws K) (d.ad K) fd := by
  obtain ⟨kp, c2⟩ := He.ba c
  unfold fnX at e
  split at e
  · rename_i oc od fd osl q
    rw [q] at c2
    obtain ⟨k1, k2⟩ := He.ba c2
    obtain ⟨k3, k4⟩ := He.ba k2
    obtain ⟨n1, n2, n3, n4, n5, n6, n7, n8, n9, n10, n11, n12, n13, n14, n15⟩ := fd
    unfold DfX.val at e
    rw [hclo] at e
    simp only [Option.some.injEq, Prod.mk.injEq, List.map_nil, List.map_eq_nil_iff] at e
    obtain ⟨h1, h2, h3, h4, h5, h6, h7, h8⟩ := e
    subst h1 h2 h3 h4 h5 h6 h7 h8
    exact ⟨_, ⟨oc, od, n8, n9, n10, n11, n12, n13, n14, osl, rfl, q, k1, He.dflB_ok k3, He.kwdB_ok k4⟩, kp⟩
  · cases e
/-! ### the hook -/
abbrev AlX : Type := Bool × List He.FnW
def obsK (fa : List He.Fa) (fx : List (Frag → Bool)) (fn : List DfX) (K : Frag) : AlX := ((fa.all fun f => f.ok K) && ((fx.all fun f => f K) && fn.all fun d => d.ok K), fn.map fun d => fnX K (d.ad K))
def valX (fn : List DfX) : AlX := (true, fn.map DfX.val)
def SaysX (fa : List He.Fa) (fx : List (Frag → Bool)) (fn : List DfX) (K : Frag) : Prop := obsK fa fx fn K = valX fn
section
variable {fa : List He.Fa} {fx : List (Frag → Bool)} {fn : List DfX} {K : Frag}
theorem SaysX.fst (c : SaysX fa fx fn K) : (fa.all fun f => f.ok K) = true ∧ (fx.all fun f => f K) = true ∧ (fn.all fun d => d.ok K) = true := by
  have z : ((fa.all fun f => f.ok K) && ((fx.all fun f => f K) && fn.all fun d => d.ok K)) = true := congrArg (fun z : AlX => z.1) c
  obtain ⟨a, b⟩ := He.ba z
  exact ⟨a, He.ba b⟩
theorem SaysX.fact (c : SaysX fa fx fn K) (i : Nat) {f : He.Fa} (h : fa[i]? = some f := by rfl) : f.ok K = true := List.all_eq_true.mp c.fst.1 f (List.mem_of_getElem? h)
theorem SaysX.def_ (c : SaysX fa fx fn K) (i : Nat) {d : DfX} (h : fn[i]? = some d := by rfl) (hclo : d.clo = [] := by rfl) : ∃ fd, FunD K d.name d.qual d.params d.body d.scope (d.dvs K) (d.kws K) (d.ad K) fd := by
  have e : fn.map (fun d => fnX K (d.ad K)) = fn.map DfX.val := congrArg (fun z : AlX => z.2) c
  have e2 : (fn.map fun d => fnX K (d.ad K))[i]? = (fn.map DfX.val)[i]? := by rw [e]
  rw [List.getElem?_map, List.getElem?_map, h] at e2
  exact DfX.funD hclo (Option.some.inj e2) (List.all_eq_true.mp c.fst.2.2 d (List.mem_of_getElem? h))
end
end S
namespace S
open PySem PySem.Spec PyProof.Rows L2
/-! ### bool(x): by its truth -/
section
variable {X : Cx} {k : Nat} {g : Addr} {sp : Sp} {E : XK} {c m : Str} {ups : List Str} {tys : List String}
end
/-! ### tuples of the module -/
end S
namespace S
open PySem PySem.Spec PyProof.Rows L2
/-! ### enumerate over a tuple -/
set_option maxHeartbeats 4000000 in
theorem meets_enum1 {v : Value} {o : Obj} {H : Heap → Prop} (B : Begins v o H) :
    Meets (Builtin.«enumerate.__new__» ⟨[.type "enumerate", v], []⟩) (fun _ R s => H s.heap ∧
      R (.ok (.ret (.ref (s.heap.push o).objs.size))) { s with heap := (s.heap.push o).push { cls := .type "enumerate", data := .fields #[.none, .bool false, .ref s.heap.objs.size, rawInt 0, .none, .none] } }) :=
  .of_wp fun prog w A R s h => by
    obtain ⟨hp, g, d, tk, os⟩ := s; obtain ⟨h1, h⟩ := h
    have hsub := sub_enumerate
    have q1 : ∀ {A' : Around} {E : Value → Shared → Prop} {Q : Value → Shared → Prop}, Q (.ref hp.objs.size) ⟨hp.push o, g, d, tk, os⟩ → wpAny (model prog w) A' (pyIter v) Q E ⟨hp, g, d, tk, os⟩ :=
      fun q => B.iter prog w _ _ ⟨hp, g, d, tk, os⟩ _ h1 q
    wp_walk using q1
    refine wpAny_stack_any fun st => wpAny_pure ?_
    split
    · rename_i c _ _ _ _ _
      cases (c == Value.type "enumerate")
      · wp_walk using q1
        exact ⟨_, rfl, h⟩
      · wp_walk using q1
        exact ⟨_, rfl, h⟩
    · wp_walk using q1
      exact ⟨_, rfl, h⟩
theorem enum_begins1 {prog : Program} {w : World} {A : Around} {E : Value → Shared → Prop} {s : Shared} {v : Value} {o : Obj} {H : Heap → Prop} {Q : Value → Shared → Prop} (B : Begins v o H) (h1 : H s.heap)
    (h : ∀ h', IsEnum h' (s.heap.objs.size + 1) s.heap.objs.size 0 .none → h'.get? s.heap.objs.size = some o → h'.objs.size = s.heap.objs.size + 2 →
      (∀ b o, s.heap.get? b = some o → h'.get? b = some o) → Q (.ref (s.heap.objs.size + 1)) { s with heap := h' }) :
    wpAny (model prog w) A (call (.type "enumerate") [v]) Q E s := by
  refine callType_new F.called_enumerate (by decide) (F.typeCall_enumerate_1 _) (F.newCall_enumerate_1 _) (fun obj => F.args_object_init_2 obj _) F.entry_enumerate_new
    (meets_enum1 B) ⟨h1, ?_⟩
  have hz : (s.heap.push o).objs.size = s.heap.objs.size + 1 := Heap.size_push ..
  show _ ∧ _
  rw [hz]
  have he : IsEnum ((s.heap.push o).push { cls := .type "enumerate", data := .fields #[.none, .bool false, .ref s.heap.objs.size, rawInt 0, .none, .none] }) (s.heap.objs.size + 1) s.heap.objs.size 0 .none := by
    have := Heap.get?_push_size (s.heap.push o) (o := { cls := .type "enumerate", data := .fields #[.none, .bool false, .ref s.heap.objs.size, rawInt 0, .none, .none] }) rfl
    rw [hz] at this; exact this
  refine ⟨⟨_, he, rfl⟩, h _ he (Heap.get?_push_of_some _ (Heap.get?_push_size _ B.free)) (by rw [Heap.size_push, hz]) fun b o x => Heap.get?_push_of_some _ (Heap.get?_push_of_some _ x)⟩
/-- the tuple at a, each item in a new pair -/
def Iet (K : Frag) (a : Addr) : It :=
  ⟨fun i H => ∃ (xs : List V) (x : V), SqT K H a xs ∧ xs[i]? = some x, fun i H v H' => ∃ T x, v = .ref T ∧ H T = none ∧ H' = upd H T (.tup [.int (i : Nat), x]) ∧ ∀ xs, SqT K H a xs → xs[i]? = some x, fun i H => ∃ xs : List V, SqT K H a xs ∧ xs.length ≤ i⟩
theorem enum_endT {prog : Program} {w : World} {A : Around} {E : Value → Shared → Prop} {s : Shared} {e it l : Addr} {i : Nat} {c : Int} {items : Array Value} {old : Value} {Q : Option Value → Shared → Prop} (hh : A.handled = none)
    (he : IsEnum s.heap e it c old) (hit : s.heap.IsTupleIter it l i) (hl : s.heap.IsTuple l items) (hx : items[i]? = none)
    (hQ : ∀ h', Heap.ExtBut it s.heap h' → Q none { s with heap := h' }) : wpAny (model prog w) A (pyNext (.ref e)) Q E s := by
  have hT : s.TypeIs (.ref e) "enumerate" := ⟨_, he, rfl⟩
  unfold pyNext
  refine wpAny_bind (wpAny_attempt (wpAny_callSpecial?_slot (name := Str.ofString "__next__") hT F.slot_enumerate_next
    (wpAny_call_entry F.slot_enumerate_next hT F.entry_enumerate_next ?_ (F.args_enumerate_next_1 _))))
  show wpAny _ _ (field (.ref e) 2 >>= _) _ _ _
  refine wpAny_bind (wpAny_field he rfl (x := .ref it) rfl ?_)
  refine wpAny_bind (wpAny_nextOf_tuple_end hh hit hl hx fun h' x he' hx' => ?_)
  obtain ⟨o, ho, hc⟩ := hx'
  refine wpAny_bind (wpAny_isInstance (T := "StopIteration") (b := true) ⟨o, ho, hc⟩ isSubtype_stop ?_)
  exact wpAny_pure (hQ _ he')
theorem turn_enumT {P : Program} {w : World} {K : Frag} {elts : List Expr} {kk : Nat} {tpos : Pos} (a e it : Addr) :
    Turn P w K (.Tuple elts kk tpos) (Iet K a) [e, it] e (fun i h => (∃ old, IsEnum h e it ((i : Nat) : Int) old) ∧ h.IsTupleIter it a i ∧ e ≠ it) where
  mem := by simp
  obj := fun i h st b hb => by
    obtain ⟨⟨old, he⟩, ⟨o, ho, hc, hd⟩, _⟩ := st
    have e' : b = e ∨ b = it := by simpa using hb
    rcases e' with z | z
    · rw [z]; exact ⟨_, he, fun v q => nomatch q⟩
    · rw [z]; exact ⟨o, ho, fun v q => by rw [hd] at q; cases q⟩
  keep := fun i h h' st k => let ⟨⟨old, he⟩, hi, hne⟩ := st; ⟨⟨old, k e (by simp) _ he⟩, hi.at fun o q => k it (by simp) o q, hne⟩
  item := by
    intro X hP hw hK hc i pins s σ H E I hf st hg
    subst hP hw hK
    obtain ⟨⟨old, he⟩, hit, hne⟩ := st
    obtain ⟨xs, x, hq, hx⟩ := hg
    obtain ⟨its, rv, p, hz⟩ := I.tuple hq
    have ht : s.heap.IsTuple a its.toArray := p
    obtain ⟨u, hu, ru⟩ := rv.get hx
    have hel : e < s.heap.objs.size := Heap.lt_size he
    have hil : it < s.heap.objs.size := by obtain ⟨_, q, _⟩ := hit; exact Heap.lt_size q
    have hat : a ≠ it := by
      rintro rfl
      obtain ⟨o1, e1, c1, _⟩ := hit
      obtain ⟨o2, e2, c2, _⟩ := ht
      rw [e1] at e2; cases e2
      rw [c1] at c2; exact absurd c2 (by simp)
    have hae : e ≠ a := by
      rintro rfl
      obtain ⟨o2, e2, c2, _⟩ := ht
      rw [show s.heap.get? e = _ from he] at e2; cases e2
      exact absurd c2 (by simp)
    have D := Draws.tuple (prog := X.prog) (w := X.w) (A := X.A.in1) (show X.A.in1.handled = none from I.ok.hd hc) it a hat its.toArray
    have hlt : i < its.toArray.size := by
      have := rv.length
      obtain ⟨h1, _⟩ := List.getElem?_eq_some_iff.mp hx
      simp; omega
    refine wpAny_pyNext_enum_itemC D he ⟨hit, ht⟩ hlt hne (by simp; exact ⟨hne, hae⟩) fun u2 h' tk hP ho hst hT hsz hk => ?_
    have eu : u2 = u := by
      have h1 : its.toArray[i]? = some u2 := hP
      rw [List.getElem?_toArray] at h1
      rw [hu] at h1
      exact (Option.some.inj h1).symm
    subst eu
    refine ⟨_, rfl, wpAny_letOwnedTupleGo_enum (s := { s with heap := h', toks := tk + 1 }) ho fun h'' he' sb => ?_⟩
    have hT2 : h''.get? s.heap.objs.size = some { cls := .type "tuple", data := .seq #[.int i tk, u2] } := (sb.2 _ (Nat.ne_of_gt hel)).trans hT
    have new : ObjOk X.prog X.w (upd H s.heap.objs.size (.tup [.int (i : Nat), x])) h'' s.heap.objs.size (.tup [.int (i : Nat), x]) :=
      ⟨by show 2 ≤ sizeLine; decide, [.int i tk, u2], .cons ⟨_, rfl⟩ (.cons ru .nil), ⟨_, hT2, rfl, _, rfl⟩⟩
    have I1 : Inv X pins σ (upd H s.heap.objs.size (.tup [.int (i : Nat), x])) { s with heap := h'', toks := tk + 1 } :=
      I.turnedNew (ch := [e, it]) (fun b ob hb q => (sb.2 b (fun z => hb (by simp [z]))).trans (hk b ob (fun z => hb (by simp [z])) (fun z => hb (by simp [z])) q)) hf (Nat.le_refl _) new
    refine ⟨.ref s.heap.objs.size, _, I1, rfl, ⟨_, x, rfl, I.hok.fresh (Nat.le_refl _), rfl, fun ys hy => by rw [I.tuple_inj hy hq]; exact hx⟩, ⟨⟨u2, ?_⟩, hst.1.at fun o q => (sb.2 it (Ne.symm hne)).trans q, hne⟩, fun b hb => ?_⟩
    · have e1 : ((i + 1 : Nat) : Int) = (i : Int) + 1 := by omega
      rw [e1]; exact he'
    · have hb' : b < s.heap.objs.size := by
        have e' : b = e ∨ b = it := by simpa using hb
        rcases e' with z | z
        · rw [z]; exact hel
        · rw [z]; exact hil
      rw [upd_ne (Nat.ne_of_lt hb')]
      exact (hf b hb).1
  done := by
    intro X hP hw hK hc i pins s σ H E I hf st hg
    subst hP hw hK
    obtain ⟨⟨old, he⟩, hit, hne⟩ := st
    obtain ⟨xs, hq, hx⟩ := hg
    obtain ⟨its, rv, p, hz⟩ := I.tuple hq
    have ht : s.heap.IsTuple a its.toArray := p
    obtain ⟨f0, f1, f2, f3, f4, f5⟩ := hf it (by simp)
    have hl := rv.length
    exact enum_endT (I.ok.hd hc) he hit ht (by simp; omega) fun h' eb => ⟨rfl, I.turned (t' := s.toks) (fun b o hb q => eb b o hb q) f0 f1 f3 f4 f5⟩
  self := fun A i s Q E st h => let ⟨⟨_, he⟩, _⟩ := st; wpAny_pyIter_enum he h
/-- over the tuple at p -/
structure EnW (K : Frag) (H : Hp) (p : Addr) (R : It → Hp → Prop) : Prop where
  ex : ∃ xs, SqT K H p xs
  go : R (Iet K p) H
/-- a loop over them: each pair is new -/
theorem for_en {K : Frag} {p : Addr} {xs : List V} {g : TG} {tb : TS} {D : Ends} {σ : L2.St} {H : Hp} (Pv : Nat → L2.St → Hp → Prop) (hx : SqT K H p xs) (h0 : Pv 0 σ H) (hl : ∀ i σ H', i ≤ xs.length → Pv i σ H' → SqT K H' p xs)
    (hs : ∀ (i : Nat) x σ H, xs[i]? = some x → Pv i σ H → ∀ T, H T = none → g (.ref T) σ (upd H T (.tup [.int (i : Int), x])) fun σ2 H2 => tb { D with nx := Pv (i + 1), ct := Pv (i + 1), bk := D.nx } σ2 H2) (hd : ∀ σ H, Pv xs.length σ H → D.nx σ H) :
    EnW K H p (LoopR D g tb σ) := by
  refine ⟨⟨xs, hx⟩, fun i m σ H => i ≤ xs.length ∧ m = xs.length - i ∧ Pv i σ H, ⟨_, Nat.zero_le _, rfl, h0⟩, ?_⟩
  rintro i m σ H ⟨hi, rfl, hp⟩
  have hq := hl i σ H hi hp
  by_cases hlt : i < xs.length
  · have hxi : xs[i]? = some xs[i] := List.getElem?_eq_getElem hlt
    refine .inr ⟨⟨xs, _, hq, hxi⟩, Pv (i + 1), fun σ' H' q => ⟨_, by omega, by omega, rfl, q⟩, ?_⟩
    rintro v H' ⟨T, y, rfl, hT, rfl, hy⟩
    have e := hy xs hq
    exact hs i y σ H e hp T hT
  · have e : i = xs.length := by omega
    subst e
    exact .inl ⟨⟨xs, hq, Nat.le_refl _⟩, hd _ _ hp⟩
end S
namespace S
open PySem PySem.Spec PyProof.Rows L2
/-! ### number * number, list * number -/
def oMulA : R2 := fun x y H Q => match x, y with
  | .int i, .int j => Need (CMul i j) (Q (.int (i * j)) H)
  | .ref l, .int k => Ls H l fun xs => Need (-(2 ^ 63) ≤ k ∧ k < 2 ^ 63 ∧ xs.length * k.toNat ≤ sizeLine) (NewL H (List.replicate k.toNat xs).flatten Q)
  | _, _ => False
theorem o_mulA {X : Cx} : OpR X (binaryOp .Mult) oMulA := OpR.of (op_mul.or op_rep) fun x y H Q q => by
  cases x <;> cases y <;> try exact q.elim
  · exact .inl ⟨_, _, rfl, rfl, q.c, q.q⟩
  · obtain ⟨⟨xs, h, ⟨⟨h1, h2, h3⟩, ⟨q⟩⟩⟩⟩ := q
    exact .inr ⟨_, _, xs, rfl, rfl, h, h1, h2, h3, q⟩
/-! ### staticmethods -/
section
variable {X : Cx} {k : Nat} {sp : Sp} {E : L2.St → XK} {c m : Str} {pos apos : Pos} {o e : Expr} {es : List Expr} {t : TA}
end
end S
namespace S
open PySem PySem.Spec PyProof.Rows L2
/-! ### exceptions with an own __init__ over super().__init__ -/
section
variable {P : Program} {w : World} {K : Frag} {mg : Str → Option Value} {base : Heap} {CX : CXT} {c fld nm qual par msg : Str} {params : Arguments} {body : List Stmt} {scope : Scope} {fI : Addr} {fd : FuncData} {p0 p1 p2 p3 p4 p5 p6 p7 p8 p9 : Pos} {j : Nat}
end
/-! ### raise C(e) -/
/-! ### e.f, e the exception of the suite -/
/-! ### such a class in the head -/
end S
namespace S
open PySem PySem.Spec PyProof.Rows L2
/-! ### x not in o, o with its own __contains__ -/
section
variable {X : Cx} {k : Nat} {g : Addr} {sp : Sp} {E : XK} {c : Str}
end
/-! ### n.bit_length() -/
end S
namespace S
open PySem PySem.Spec PyProof.Rows L2
/-! ### range(a, b, -1) -/
/-! ### the head, its looks one by one -/
end S
namespace S
open PySem PySem.Spec PyProof.Rows L2
/-! ### i op x, x an instance with its own reflected op -/
section
variable {prog : Program} {w : World} {A : Around} {E : Value → Shared → Prop} {s : Shared} {K : Frag} {x C L f g : Addr} {h₀ : Heap} {m : Str → Option Value} {ox : Obj} {od : Option Obj}
end
section
variable {X : Cx} {k kR : Nat} {g gR : Addr} {sp spR : Sp} {E : XK} {c : Str} {ups : List Str} {tys : List String}
end
end S
namespace S
open PySem PySem.Spec PyProof.Rows L2
/-! ### abs of an instance with its own __abs__ -/
section
variable {X : Cx} {k : Nat} {g : Addr} {sp : Sp} {E : XK} {c : Str} {ups : List Str} {tys : List String}
end
/-! ### x op i, x an instance whose class has no reflected op -/
section
variable {X : Cx} {k : Nat} {g : Addr} {sp : Sp} {E : XK} {c : Str} {ups : List Str} {tys : List String}
end
/-! ### == of two tuples of instances with their own == -/
section
variable {prog : Program} {w : World} {A : Around} {R : Result → Shared → Prop}
end
section
variable {X : Cx} {k : Nat} {g : Addr} {sp : Sp} {E : XK} {c : Str}
end
end S
namespace S
open PySem PySem.Spec PyProof.Rows L2
/-! ### x op y: two instances of c by their own def; two others by r -/
section
variable {X : Cx} {k kR : Nat} {g gR : Addr} {sp spR : Sp} {E : XK} {c : Str} {ups : List Str} {tys : List String}
end
end S
namespace S
open PySem PySem.Spec PyProof.Rows L2
/-! ### the head's look, over what the named ones reach -/
def nsG (g : Addr → Option Obj) (ns : Addr) (x : Str) : List Addr := match g ns with
  | some ⟨_, _, .dict es _, _⟩ => (match es.toList.find? (·.key.isStr x) with
    | some e => He.refV e.val
    | none => [])
  | _ => []
def rfY (o : Obj) : List Addr := match o.data with
  | .cls cd => [cd.ns]
  | .func fd => He.refV fd.code ++ (He.refV fd.defaults ++ (He.refV fd.kwdefaults ++ fd.closure.map (·.2)))
  | .dict es _ => es.toList.flatMap fun e => He.refV e.val
  | .seq its _ => its.toList.flatMap He.refV
  | .fields vs => (match o.cls == .type "code" with
    | true => []
    | false => vs.toList.flatMap He.refV)
  | _ => []
def stepY (g : Addr → Option Obj) (as : List Addr) : List Addr := as.flatMap fun a => match g a with
  | some o => rfY o
  | none => []
def lvY (g : Addr → Option Obj) : Nat → List Addr → List Addr
  | 0, as => as
  | n + 1, as => as ++ lvY g n (stepY g as)
def asY (names : List Str) (g : Addr → Option Obj) : List Addr := mainGlobals :: cStatics :: lvY g 4 (names.flatMap (nsG g mainGlobals))
def obsYG (names : List Str) (fa : List He.Fa) (fx : List (Frag → Bool)) (fn : List DfX) (g : Addr → Option Obj) : AlX := obsK fa fx fn (He.frG g (asY names g))
def hookY (names : List Str) (fa : List He.Fa) (fx : List (Frag → Bool)) (fn : List DfX) : PySem.W.Hook where
  α := AlX
  obs := fun s => obsYG names fa fx fn s.heap.get?
  val := fun _ => valX fn
  says := fun _ h => ∃ K : Frag, K.In h ∧ SaysX fa fx fn K
  of := fun _ _ e => ⟨_, He.frG_in, e⟩
  keeps := fun _ _ _ ⟨K, hK, c⟩ k => ⟨K, PySem.W.Frag.In.keeps hK k, c⟩
theorem obsYG_eq {names : List Str} {fa : List He.Fa} {fx : List (Frag → Bool)} {fn : List DfX} {g : Addr → Option Obj} {s : Shared} (h : ∀ a, g a = s.heap.get? a) : obsYG names fa fx fn g = (hookY names fa fx fn).obs s := by
  have e : g = s.heap.get? := funext h
  rw [e] <;> rfl
theorem run_split2 {σ β γ : Type} {o : Option σ} {f : σ → Bool} {g : σ → β} {h : σ → γ} {v2 : β} {v3 : γ} (h1 : o.map (fun s => (f s, g s)) = some (true, v2)) (h2 : o.map h = some v3) : o.map (fun s => (f s, g s, h s)) = some (true, v2, v3) := by
  cases o with
  | none => cases h1
  | some s =>
    have e1 : (f s, g s) = (true, v2) := Option.some.inj h1
    have e2 : h s = v3 := Option.some.inj h2
    obtain ⟨e3, e4⟩ := Prod.mk.inj e1
    show some (f s, g s, h s) = _
    rw [e3, e4, e2]
end S
namespace S
open PySem PySem.Spec PyProof.Rows L2
/-! ### classes whose instances have a dict -/
section
variable {K : Frag} {H : Hp} {a dx : Addr} {x f : Str} {ups fs : List Str} {as : List (Str × V)}
end
/-! ### methods, properties of such instances -/
section
variable {X : Cx} {k : Nat} {g : Addr} {sp : Sp} {E : L2.St → XK} {x c m : Str} {p pos apos : Pos} {e o : Expr} {es : List Expr} {t : TA} {ta : TE}
end
/-! ### calls with keywords -/
section
variable {X : Cx} {k n : Nat} {f g : Addr} {ks : List Str} {sp : Sp} {E : L2.St → XK} {x c m : Str} {p pos apos : Pos} {e o : Expr} {es : List Expr} {kws : List Keyword} {t tk : TA} {ta : TE} {gV : List V → List V → List V}
end
end S
namespace S
open PySem PySem.Spec PyProof.Rows L2
/-! ### sum(a list of numbers) -/
end S
namespace S
open PySem PySem.Spec PyProof.Rows L2
/-! ### x == y of an instance ahead with its own def and anything behind -/
section
variable {X : Cx} {k : Nat} {g : Addr} {sp : Sp} {E : XK} {c : Str}
end
end S
namespace S
open PySem PySem.Spec PyProof.Rows L2
/-! ### == of tuples of instances: what one address means is known in the run -/
section
variable {X : Cx} {k : Nat} {g : Addr} {sp : Sp} {E : XK} {c : Str}
end
end S
namespace S
open PySem PySem.Spec PyProof.Rows L2 GenW
section
variable {prog : Program} {w : World} {A : Around} {R : GenEnd} {Y : Protocol} {n : Nat} {s₀ : Shared} {fs : List Frame} {s : Shared} {env : Env}
end
section
variable {X : Cx}
end
end S
namespace S
open PySem PySem.Spec PyProof.Rows L2 GenW
section
variable {P : Program} {w : World} {K : Frag} {mg : Str → Option Value} {base : Heap} {x qual : Str} {params : Arguments} {body : List Stmt} {scope : Scope} {dvs : List V} {kws : List (Str × V)} {f : Addr} {fd : FuncData}
end
/-! ### generators as values -/
section
variable {X : Cx} {k n : Nat} {f g : Addr} {sp : SpG} {x c m : Str} {p pos pos' apos : Pos} {e o : Expr} {es : List Expr} {t tk : TA} {ta : TE} {gV : List V → List V → List V} {ks : List Str} {kws : List Keyword}
end
end S
namespace S
open PySem PySem.Spec PyProof.Rows L2
section
variable {K : Frag} {a b : Addr} {xs zs : List V} {g : TG} {tb : TGn} {D : GEnds} {ys : List V} {σ : L2.St} {H : Hp}
end
/-! ### a < b < c < d as a test -/
end S
namespace S
open PySem PySem.Spec PyProof.Rows L2
/-! ### set(a list of numbers) -/
section
variable {P : Program} {w : World} {A : Around} {E : Value → Shared → Prop} {s : Shared}
end
section
variable {X : Cx}
/-- a reading closed under weaker wishes -/
def upE (te : TE) : TE := fun σ H Q => ∃ C : VK, te σ H C ∧ ∀ x H1, C x H1 → Q x H1
theorem pe_up {e : Expr} {te : TE} (he : PE X e te) : PE X e (upE te) := ⟨fun pins s σ H Q I h => by
  obtain ⟨C, h1, h2⟩ := h
  exact thn (he.run pins s σ H C I h1) fun v s1 ⟨x, H1, I1, r1, q1⟩ => ⟨x, H1, I1, r1, h2 x H1 q1⟩⟩
end
end S
namespace S
open PySem PySem.Spec PyProof.Rows L2
end S
namespace S
open PySem PySem.Spec PyProof.Rows L2
section
variable {X : Cx} {k n : Nat} {f : Addr} {sp : SpG} {x : Str} {p pos : Pos} {e : Expr} {es : List Expr} {t tk : TA} {gV : List V → List V → List V} {ks : List Str} {kws : List Keyword}
end
end S
namespace S
open PySem PySem.Spec PyProof.Rows L2 GenW
/-! ### a heap's beginning as the ground of a run -/
section
variable {X : Cx} {pins : List (Addr × Obj)} {σ : L2.St} {H H' : Hp} {s s' : Shared} {b : Shared × Hp} {oL : Obj}
end

/-! ### a generator's body whose yields are the consumer's turns -/
abbrev TurnK := List V → V → Hp → (Hp → Prop) → Prop
abbrev WakeZ := List V → Shared → Hp → Prop
section
variable {X : Cx} {Z : WakeZ} {Kc : TurnK} {st : Stmt} {rest : List Stmt}
end

/-! ### the call of such a def -/
end S
namespace S
open PySem PySem.Spec PyProof.Rows L2 GenW
section
variable (X : Cx)
end
section
variable {X : Cx} {pos : Pos} {a b c e : Expr} {ta tb tc te : TE}
end
end S
namespace S
open PySem PySem.Spec PyProof.Rows L2
end S
namespace S
open PySem PySem.Spec PyProof.Rows L2 GenW
section
variable {X : Cx} {pins : List (Addr × Obj)} {σ : L2.St} {H H' : Hp} {s s' : Shared}
end
end S
namespace S
open PySem PySem.Spec PyProof.Rows L2
end S
namespace S
open PySem PySem.Spec PyProof.Rows L2
open Sem (wp)
/-! ### what is gone stays gone -/
/-! ### a tuple's iterator -/
section
variable {X : Cx} {k : Nat} {g : Addr} {sp : Sp} {c : Str} {ups fs : List Str} {a : Addr}
end
end S
namespace S
open PySem PySem.Spec PyProof.Rows L2
open Sem (wp)
section
variable {X : Cx} {k : Nat} {g : Addr} {sp : Sp} {c : Str} {ups fs : List Str} {a : Addr}
end
end S
namespace S
open PySem PySem.Spec PyProof.Rows L2
end S
namespace S
open PySem PySem.Spec PyProof.Rows L2
end S
namespace S
open PySem PySem.Spec PyProof.Rows L2
end S
namespace S
open PySem PySem.Spec PyProof.Rows L2
/-! ### a text walked -/
/-! ### sorted(set(..)) of a list or a tuple -/
section
variable {P : Program} {w : World} {A : Around} {E : Value → Shared → Prop} {s : Shared}
end
section
variable {X : Cx}
end
/-! ### except clauses without a name -/
end S
namespace S
open PySem PySem.Spec PyProof.Rows L2
end S
namespace S
open PySem PySem.Spec PyProof.Rows L2
end S
namespace S
open PySem PySem.Spec PyProof.Rows L2
end S
namespace S
open PySem PySem.Spec PyProof.Rows L2
end S
namespace S
open PySem PySem.Spec PyProof.Rows L2
section
variable {X : Cx} {elt tg iter tg1 iter1 : Expr} {ifs ifs1 : List Expr} {scope : Scope} {own : List (Str × Nat)} {vs1 : List Nat} {pos spos : Pos} {wi wi1 : TI} {g g1 : TG} {tt tt1 : TT} {te : TE}
end
end S
namespace S
open PySem PySem.Spec PyProof.Rows L2
end S
namespace S
open PySem PySem.Spec PyProof.Rows L2
end S
namespace S
open PySem PySem.Spec PyProof.Rows L2
/-! ### a new one -/
structure NewD (H : Hp) (u : HO) (Q : VK) : Prop where
  go : ∀ p, H p = none → Q (.ref p) (upd H p u)
def dNewK : TE := fun _ H Q => NewD H (.dK []) Q
theorem pe_newK {X : Cx} {pos : Pos} : PE X (.Dict [] [] pos) dNewK := PE.of pe_dnewK fun σ H Q q => q.go
def dNewT : TE := fun _ H Q => NewD H (.dT []) Q
theorem pe_newT {X : Cx} {pos : Pos} : PE X (.Dict [] [] pos) dNewT := PE.of pe_dnewT fun σ H Q q => q.go
/-! ### d[k] -/
structure DG (H : Hp) (a : Addr) (y : V) (k : V → Prop) : Prop where
  ex : ∃ v, DGet H a y (some v) ∧ k v
theorem dget_k {H : Hp} {a : Addr} {kvs : List (Key × V)} {k : Key} {o : Option V} (e : L2.Rd H a (.dK kvs)) (l : valV kvs k = o) : DGet H a (kV k) o := .inl ⟨kvs, k, e, rfl, l.symm⟩
theorem DG.s {H : Hp} {a : Addr} {kvs : List (Key × V)} {z : Str} {v : V} {k : V → Prop} (e : L2.Rd H a (.dK kvs)) (l : valV kvs (.inr z) = some v) (q : k v) : DG H a (.str z) k := ⟨v, dget_k (k := .inr z) e l, q⟩
/-! ### k in d -/
/-! ### d[k] = v -/
/-! ### d.get(k, x) -/
/-! ### tuples whose very object is known -/
/-! ### dict(a tuple of pairs), dict(a list of pairs), dict(a dict) -/
end S
namespace S
open PySem PySem.Spec PyProof.Rows L2
/-! ### sorted(list of numbers | list of texts | dict of texts) -/
/-! ### list(sequence | dict) -/
/-! ### {k: v} -/
/-! ### {k: v for ..} -/
/-! ### for k in d -/
end S
namespace S
open PySem PySem.Spec PyProof.Rows L2
section
variable {X : Cx} {c : Str} {g : Addr} {k : Nat} {sp : Sp} {E : XK}
end
end S
namespace S
open PySem PySem.Spec PyProof.Rows L2
section
variable {P : Program} {w : World} {K : Frag} {mg : Str → Option Value} {base : Heap} {c nm qual : Str} {params : Arguments} {body rest : List Stmt} {scope : Scope} {fI g : Addr} {p0 p1 p2 p4 p5 : Pos} {e : Expr} {es : List Expr} {N ps : List Str} {self0 : Str} {k : Nat} {sp sp0 : Sp} {ta : XK → TA} {tr : XK → TS} {pl : Env → Sem Bool}
end
/-! ### such a def in the head -/
end S
namespace S
open PySem PySem.Spec PyProof.Rows L2
section
variable {X : Cx} {k : Nat} {cs : List Str} {sp : Str → Sp} {E : L2.St → XK} {x m : Str} {p pos apos : Pos} {e o : Expr} {es : List Expr} {t : TA} {ta : TE}
end
theorem FR.none {P : Program} {w : World} {K : Frag} {mg : Str → Option Value} {base : Heap} {k : Nat} {f : Addr} {sp : Sp} (h : ∀ vs H Q E, ¬ sp vs H Q E) : FR P w K mg base k f sp := fun _ _ _ _ _ _ _ _ _ _ _ hs => (h _ _ _ _ hs).elim
end S
namespace S
open PySem PySem.Spec PyProof.Rows L2
section
open PySem.W
variable {prog : Program} {w : World} {A : Around} {E : Value → Shared → Prop} {s : Shared} {K : Frag} {x y C C2 L f f2 : Addr} {h₀ : Heap} {m : Str → Option Value} {ox oy : Obj} {od oe : Option Obj}
end
section
variable {X : Cx} {k : Nat} {cs : List Str} {sp : Str → Sp} {E : XK} {m : Str}
end
end S
namespace S
open PySem PySem.Spec PyProof.Rows L2
structure IsT (x y : V) (k : Bool → Prop) : Prop where
  ex : (∃ a b, x = .bl a ∧ y = .bl b ∧ k (decide (a = b))) ∨ (x = .non ∧ (∃ b, y = .bl b) ∧ k false)
theorem IsT.bl {a b : Bool} {k : Bool → Prop} (q : k (decide (a = b))) : IsT (.bl a) (.bl b) k := ⟨.inl ⟨a, b, rfl, rfl, q⟩⟩
theorem IsT.non {b : Bool} {k : Bool → Prop} (q : k false) : IsT .non (.bl b) k := ⟨.inr ⟨rfl, ⟨b, rfl⟩, q⟩⟩
def oIsT : R2 := fun x y H Q => IsT x y fun b => Q (.bl b) H
theorem o_isT {X : Cx} : OpR X (compareOp .Is) oIsT := by
  intro pins s σ H x y v u Q I rx ry h
  rcases h.ex with ⟨a, b, rfl, rfl, hq⟩ | ⟨rfl, ⟨b, rfl⟩, hq⟩
  · exact op_isBl pins s σ H _ _ v u Q I rx ry ⟨_, _, rfl, rfl, hq⟩
  · cases rx
    cases (show u = Value.bool b from ry)
    exact wpAny_is_other rfl (fun z => by cases z) ⟨.bl false, H, I, rfl, hq⟩
end S
namespace S
open PySem PySem.Spec PyProof.Rows L2
end S
namespace S
open PySem PySem.Spec PyProof.Rows L2
section
variable {X : Cx} {k : Nat} {g : Addr} {sp : Sp} {E : XK} {c : Str} {ups : List Str} {tys : List String}
end
/-! ### tuple displays as tracked tuples -/
structure NewTK (H : Hp) (ys : List V) (Q : V → Hp → Prop) : Prop where
  go : ∀ p, H p = none → Q (.ref p) (upd H p (.tup ys))
def dTupK (t : TA) : TE := fun σ H Q => t σ H fun xs H1 => Need (xs.length ≤ sizeLine) (NewTK H1 xs Q)
theorem pe_tupK {X : Cx} {es : List Expr} {t : TA} {x1} {pos : Pos} (h : PA X es t) : PE X (.Tuple es x1 pos) (dTupK t) := by
  refine ⟨fun pins s σ H Q I hq => ?_⟩
  refine wpAny_Tuple_spliced (thn (h.run pos pins s σ H _ I hq) fun us s1 ⟨xs, H1, I1, r, ⟨z, ⟨q⟩⟩⟩ => ⟨by rw [← r.length]; exact z, ?_⟩)
  have hf : H1 s1.heap.objs.size = none := I1.hok.fresh (Nat.le_refl _)
  refine ⟨.ref s1.heap.objs.size, upd H1 s1.heap.objs.size (.tup xs), I1.laid (t' := s1.toks) (fun b u e => Heap.get?_push_of_some _ e) (Nat.le_refl _) ?_, rfl, q _ hf⟩
  exact ⟨z, us, r, ⟨_, Heap.get?_push_size _ rfl, rfl, _, rfl⟩⟩
/-! ### dicts whose keys are tuples -/
theorem DG.t {H : Hp} {a b : Addr} {kvs : List (List Key × V)} {ks : List Key} {v : V} {k : V → Prop} (e : L2.Rd H a (.dT kvs)) (eb : H b = some (.tup (ks.map kV))) (l : valV kvs ks = some v) (q : k v) : DG H a (.ref b) k := ⟨v, .inr ⟨kvs, ks, b, e, rfl, eb, l.symm⟩, q⟩
end S
namespace S
open PySem PySem.Spec PyProof.Rows L2
section
variable {X : Cx} {k : Nat} {g : Addr} {sp : Sp} {E : L2.St → XK} {c : Str} {ups : List Str} {tys : List String}
end
/-! i | j of numbers -/
end S
namespace S
open PySem PySem.Spec PyProof.Rows L2
section
variable {P : Program} {w : World} {K : Frag} {mg : Str → Option Value} {base : Heap} {CX : CXT} {c fld fld2 nm qual par par2 msg : Str} {params : Arguments} {body : List Stmt} {scope : Scope} {fI : Addr} {fd : FuncData} {p0 p1 p2 p3 p4 p5 p6 p7 p8 p9 q6 q7 q8 q9 : Pos} {j : Nat}
end
end S
namespace S
open PySem PySem.Spec PyProof.Rows L2
end S
namespace S
open PySem PySem.Spec PyProof.Rows L2
end S
namespace S
open PySem PySem.Spec PyProof.Rows L2
end S
namespace S
open PySem PySem.Spec PyProof.Rows L2
structure EnA (K : Frag) (H : Hp) (p : Addr) (R : It → Hp → Prop) : Prop where
  ex : ((∃ xs, SqT K H p xs) ∧ R (Iet K p) H) ∨ ((∃ xs, SqL K H p xs) ∧ R (Ite K p) H)
def iEnA (K : Frag) (ta : TE) : TI := fun σ H R => ta σ H fun x H1 => match x with
  | .ref p => EnA K H1 p R
  | _ => False
theorem pi_enA {X : Cx} {e : Expr} {ta : TE} {p pos tpos : Pos} {elts : List Expr} {kk : Nat} (hm : X.mg "enumerate" = none) (ha : PE X e ta) (hg : Gl X "enumerate" := by rfl) (hs : starEach [e] X.env = [(false, eval e X.env)] := by rfl) :
    PI X (.Tuple elts kk tpos) (.Call (.Name "enumerate" p) [e] [] pos) (iEnA X.K ta) := by
  refine ⟨fun pins s σ H R I h => ?_⟩
  have hA : PA X [e] (tCons ta tNil) := pa_cons ha pa_nil hs
  refine Call_ (ld_blt I hg hm boot_enumerate (PyProof.Rows.callWith_type1 (thn (hA.run pos pins s σ H (fun vs H1 => ∃ a, vs = [V.ref a] ∧ EnA X.K H1 a R) I ?hq) fun us s1 ⟨vs, H1, I1, r1, q1⟩ => ?_) hs rfl))
  case hq =>
    show ta σ H fun x H1 => _
    have key : ∀ (x : V) (H1 : Hp), (match x with | .ref p => EnA X.K H1 p R | _ => False) → (tNil σ H1 fun xs H2 => ∃ a, x :: xs = [V.ref a] ∧ EnA X.K H2 a R) := by
      intro x H1 q
      cases x <;> try exact q.elim
      exact ⟨_, rfl, q⟩
    have e : (fun (x : V) (H1 : Hp) => (match x with | .ref p => EnA X.K H1 p R | _ => False)) = fun x H1 => (tNil σ H1 fun xs H2 => ∃ a, x :: xs = [V.ref a] ∧ EnA X.K H2 a R) := by
      funext x H1
      refine propext ⟨key x H1, fun ⟨a, e, q⟩ => ?_⟩
      have e2 : x = .ref a := (List.cons.inj e).1
      subst e2
      exact q
    rw [← e]
    exact h
  obtain ⟨a, ex, q⟩ := q1
  subst ex
  cases r1 with
  | cons r rr =>
    cases rr
    cases r
    rcases q.ex with ⟨⟨xs, hq⟩, q⟩ | ⟨⟨xs, hq⟩, q⟩
    · obtain ⟨its, rv, p', hz⟩ := I1.tuple hq
      refine enum_begins1 (begins_tuple a its.toArray) (show s1.heap.IsTuple a its.toArray from p') fun h' he hit hsz hk => wpAny_pyIter_enum he ?_
      have I2 : Inv X pins σ H1 { s1 with heap := h' } := I1.kept (t' := s1.toks) hk
      refine ⟨s1.heap.objs.size + 1, [s1.heap.objs.size + 1, s1.heap.objs.size], _, _, H1, rfl, I2, turn_enumT a (s1.heap.objs.size + 1) s1.heap.objs.size, ⟨⟨.none, he⟩, ⟨_, hit, rfl, rfl⟩, Nat.succ_ne_self _⟩, fun b hb => ?_, q⟩
      have e' : b = s1.heap.objs.size + 1 ∨ b = s1.heap.objs.size := by simpa using hb
      have hle : s1.heap.objs.size ≤ b := by
        rcases e' with z | z
        · rw [z]; exact Nat.le_add_right _ _
        · rw [z]; exact Nat.le_refl _
      exact I1.fpOk hle (I1.hok.fresh hle)
    · obtain ⟨its, rv, p', hz⟩ := I1.list hq
      refine call_enumerate_list p'.isList fun h' he hit hsz hk => wpAny_pyIter_enum he ?_
      have I2 : Inv X pins σ H1 { s1 with heap := h' } := I1.kept (t' := s1.toks) hk
      refine ⟨s1.heap.objs.size + 1, [s1.heap.objs.size + 1, s1.heap.objs.size], _, _, H1, rfl, I2, turn_enum a (s1.heap.objs.size + 1) s1.heap.objs.size, ⟨⟨.none, he⟩, hit, Nat.succ_ne_self _⟩, fun b hb => ?_, q⟩
      have e' : b = s1.heap.objs.size + 1 ∨ b = s1.heap.objs.size := by simpa using hb
      have hle : s1.heap.objs.size ≤ b := by
        rcases e' with z | z
        · rw [z]; exact Nat.le_add_right _ _
        · rw [z]; exact Nat.le_refl _
      exact I1.fpOk hle (I1.hok.fresh hle)
end S
namespace S
open PySem PySem.Spec PyProof.Rows L2
end S
namespace S
open PySem PySem.Spec PyProof.Rows L2
end S
namespace S
open PySem PySem.Spec PyProof.Rows L2
section
variable {P : Program} {w : World} {A : Around} {E : Value → Shared → Prop} {s : Shared}
end
section
variable {X : Cx}
end
end S
namespace S
open PySem PySem.Spec PyProof.Rows L2
end S
namespace S
open PySem PySem.Spec PyProof.Rows L2
/-! ### kinds of keys -/
structure Dk (κ : Type) [DecidableEq κ] where
  kd : ∀ (P : Program) (w : World), KeyKind P w κ
  kv : κ → V
  rel : ∀ P w k u, (kd P w).is k u = true ↔ RelV (kv k) u
  conv : ∀ {P w P' w'} {h : Heap} {a : Addr} {vs : List (κ × Value)}, h.DictOf (kd P w) a vs → h.DictOf (kd P' w') a vs
def obIs : Option Bool → Value → Bool
  | none, .none => true
  | some b, .bool c => decide (c = b)
  | _, _ => false
def oiIs : Option Int → Value → Bool
  | none, .none => true
  | some i, .int j _ => decide (j = i)
  | _, _ => false
def obL : Option Bool → Leaf
  | none => .none
  | some b => .num (if b = true then 1 else 0)
def oiL : Option Int → Leaf
  | none => .none
  | some i => .num i
def obV : Option Bool → V
  | none => .non
  | some b => .bl b
def oiV : Option Int → V
  | none => .non
  | some i => .int i
theorem obIs_leaf {k : Option Bool} {v : Value} (h : obIs k v = true) : Leaf.isOf (obL k) v = true := by
  cases k with
  | none => cases v <;> first | rfl | exact absurd h Bool.false_ne_true
  | some b =>
    cases v <;> try exact absurd h Bool.false_ne_true
    rename_i c
    have e : c = b := of_decide_eq_true h
    subst e
    exact decide_eq_true rfl
theorem oiIs_leaf {k : Option Int} {v : Value} (h : oiIs k v = true) : Leaf.isOf (oiL k) v = true := by
  cases k with
  | none => cases v <;> first | rfl | exact absurd h Bool.false_ne_true
  | some i =>
    cases v <;> try exact absurd h Bool.false_ne_true
    exact h
theorem obL_inj {a b : Option Bool} (h : obL a = obL b) : a = b := by
  cases a with
  | none => cases b with
    | none => rfl
    | some y => cases h
  | some x => cases b with
    | none => cases h
    | some y => cases x <;> cases y <;> first | rfl | (injection h with h; revert h; decide)
theorem oiL_inj {a b : Option Int} (h : oiL a = oiL b) : a = b := by
  cases a with
  | none => cases b with
    | none => rfl
    | some y => cases h
  | some x => cases b with
    | none => cases h
    | some y => injection h with h; rw [h]
theorem obL_dec (a b : Option Bool) : decide (obL a = obL b) = decide (a = b) := decide_eq_decide.mpr ⟨obL_inj, fun e => by rw [e]⟩
theorem oiL_dec (a b : Option Int) : decide (oiL a = oiL b) = decide (a = b) := decide_eq_decide.mpr ⟨oiL_inj, fun e => by rw [e]⟩
def obH : Option Bool → Int
  | none => reduceHash 0xFCA86420
  | some b => hashInt (if b = true then 1 else 0)
def oiH : Option Int → Int
  | none => reduceHash 0xFCA86420
  | some i => hashInt i
theorem obH_eq (w : World) (k : Option Bool) : (obL k).key.hash w = obH k := by cases k <;> rfl
theorem oiH_eq (w : World) (k : Option Int) : (oiL k).key.hash w = oiH k := by cases k <;> rfl
def obKind (P : Program) (w : World) : KeyKind P w (Option Bool) where
  is := obIs
  hash := obH
  inj := fun v a b ha hb => obL_inj ((leafKind P w).inj v _ _ (obIs_leaf ha) (obIs_leaf hb))
  byValue := fun k v h => (leafKind P w).byValue _ v (obIs_leaf h)
  pyHash := fun hv h => (leafKind P w).pyHash (obIs_leaf hv) (by rw [show (leafKind P w).hash _ = _ from obH_eq w _]; exact h)
  eqBool := fun hu hv h => (leafKind P w).eqBool (obIs_leaf hu) (obIs_leaf hv) (by rw [obL_dec]; exact h)
  «strs» := fun k x t v h => by cases k <;> exact absurd h Bool.false_ne_true
def oiKind (P : Program) (w : World) : KeyKind P w (Option Int) where
  is := oiIs
  hash := oiH
  inj := fun v a b ha hb => oiL_inj ((leafKind P w).inj v _ _ (oiIs_leaf ha) (oiIs_leaf hb))
  byValue := fun k v h => (leafKind P w).byValue _ v (oiIs_leaf h)
  pyHash := fun hv h => (leafKind P w).pyHash (oiIs_leaf hv) (by rw [show (leafKind P w).hash _ = _ from oiH_eq w _]; exact h)
  eqBool := fun hu hv h => (leafKind P w).eqBool (oiIs_leaf hu) (oiIs_leaf hv) (by rw [oiL_dec]; exact h)
  «strs» := fun k x t v h => by cases k <;> exact absurd h Bool.false_ne_true
theorem pairs_conv {κ : Type} [DecidableEq κ] {P P' : Program} {w w' : World} {k1 : KeyKind P w κ} {k2 : KeyKind P' w' κ} (e : k1.is = k2.is) {es : List DictEntry} {vs : List (κ × Value)} (h : Pairs k1 es vs) : Pairs k2 es vs := by
  induction h with
  | nil => exact .nil
  | cons a b c ih => exact .cons (by rw [← e]; exact a) b ih
def kB : Dk (Option Bool) where
  kd := obKind
  kv := obV
  rel := fun P w k u => by
    cases k with
    | none => exact ⟨fun h => (by cases u <;> first | rfl | exact absurd h Bool.false_ne_true : u = Value.none), fun h => by rw [show u = Value.none from h]; rfl⟩
    | some b => exact ⟨fun h => (by cases u <;> first | exact congrArg Value.bool (of_decide_eq_true h) | exact absurd h Bool.false_ne_true : u = Value.bool b), fun h => by rw [show u = Value.bool b from h]; exact decide_eq_true rfl⟩
  conv := fun {P w P' w' h a vs} d => let ⟨o, es, ep, h1, h2, h3, h4, h5, h6⟩ := d; ⟨o, es, ep, h1, h2, h3, h4, pairs_conv (k1 := obKind P w) (k2 := obKind P' w') rfl h5, h6⟩
def kI : Dk (Option Int) where
  kd := oiKind
  kv := oiV
  rel := fun P w k u => by
    cases k with
    | none => exact ⟨fun h => (by cases u <;> first | rfl | exact absurd h Bool.false_ne_true : u = Value.none), fun h => by rw [show u = Value.none from h]; rfl⟩
    | some i =>
      refine ⟨fun h => (?_ : ∃ t, u = Value.int i t), fun h => ?_⟩
      · cases u <;> try exact absurd h Bool.false_ne_true
        rename_i j t
        exact ⟨t, by rw [show j = i from of_decide_eq_true h]⟩
      · obtain ⟨t, rfl⟩ := (show ∃ t, u = Value.int i t from h)
        exact decide_eq_true rfl
  conv := fun {P w P' w' h a vs} d => let ⟨o, es, ep, h1, h2, h3, h4, h5, h6⟩ := d; ⟨o, es, ep, h1, h2, h3, h4, pairs_conv (k1 := oiKind P w) (k2 := oiKind P' w') rfl h5, h6⟩
/-- the dict at a -/
def DkO {κ : Type} [DecidableEq κ] (k : Dk κ) (a : Addr) (kvs : List (κ × V)) : HO := .ext fun h => kvs.length ≤ sizeLine ∧ (a == sysModules) = false ∧ ∃ vs, KV kvs vs ∧ ∃ P w, h.DictOf (k.kd P w) a vs
section
variable {κ : Type} [DecidableEq κ] {k : Dk κ} {P : Program} {w : World} {H : Hp} {h : Heap} {a : Addr} {kvs : List (κ × V)} {vs : List (κ × Value)}
theorem dictOf_at {P : Program} {w : World} {knd : KeyKind P w κ} {h h' : Heap} (d : h.DictOf knd a vs) (q : ∀ o, h.get? a = some o → h'.get? a = some o) : h'.DictOf knd a vs := let ⟨o, es, ep, h1, h2⟩ := d; ⟨o, es, ep, q _ h1, h2⟩
theorem dko_new (z : kvs.length ≤ sizeLine) (hd : (a == sysModules) = false) (r : KV kvs vs) (d : h.DictOf (k.kd P w) a vs) : ObjOk P w H h a (DkO k a kvs) := by
  obtain ⟨o, es, ep, ho, _⟩ := id d
  exact ⟨⟨z, hd, vs, r, P, w, d⟩, ⟨o, ho⟩, fun h1 h2 p q => let ⟨z, hd, vs, r, P, w, d⟩ := p; ⟨z, hd, vs, r, P, w, dictOf_at d q⟩⟩
end
section
variable {X : Cx} {κ : Type} [DecidableEq κ] {k : Dk κ} {pins : List (Addr × Obj)} {σ : L2.St} {H : Hp} {s : Shared} {a : Addr} {kvs : List (κ × V)} {A : Around} {E : Value → Shared → Prop}
theorem dko_of (I : Inv X pins σ H s) (ha : H a = some (DkO k a kvs)) : kvs.length ≤ sizeLine ∧ (a == sysModules) = false ∧ ∃ vs, KV kvs vs ∧ s.heap.DictOf (k.kd X.prog X.w) a vs := by
  obtain ⟨z, hd, vs, r, P, w, d⟩ := (I.hok a _ ha).1
  exact ⟨z, hd, vs, r, k.conv d⟩
end
theorem dko_empty {X : Cx} {κ : Type} [DecidableEq κ] {k : Dk κ} {pins : List (Addr × Obj)} {σ : L2.St} {H H' : Hp} {s : Shared} (I : Inv X pins σ H s) : ObjOk X.prog X.w H' (s.heap.push { cls := .type "dict", data := .dict #[] }) s.heap.objs.size (DkO k s.heap.objs.size []) :=
  dko_new (P := X.prog) (w := X.w) (vs := []) (Nat.zero_le _) (beq_eq_false_iff_ne.mpr (Nat.ne_of_gt I.big)) .nil ⟨_, #[], 0, Heap.get?_push_size _ rfl, ⟨rfl, rfl, rfl⟩, rfl, (fun e he => by simp at he), .nil, .nil⟩
/-! ### a new one, of whatever keys -/
inductive NewAny (H : Hp) (Q : VK) : Prop where
  | K (h : ∀ p, H p = none → Q (.ref p) (upd H p (.dK [])))
  | T (h : ∀ p, H p = none → Q (.ref p) (upd H p (.dT [])))
  | B (h : ∀ p, H p = none → Q (.ref p) (upd H p (DkO kB p [])))
  | I (h : ∀ p, H p = none → Q (.ref p) (upd H p (DkO kI p [])))
def dNewAny : TE := fun _ H Q => NewAny H Q
theorem pe_newX {X : Cx} {pos : Pos} : PE X (.Dict [] [] pos) dNewAny := by
  refine ⟨fun pins s σ H Q I q => ?_⟩
  cases q with
  | K h => exact (pe_newK (X := X) (pos := pos)).run pins s σ H Q I ⟨h⟩
  | T h => exact (pe_newT (X := X) (pos := pos)).run pins s σ H Q I ⟨h⟩
  | B h => exact wpAny_Dict_empty ⟨.ref s.heap.objs.size, _, I.laid (a := s.heap.objs.size) (o := DkO kB s.heap.objs.size []) (t' := s.toks) (fun _ _ q => Heap.get?_push_of_some _ q) (Nat.le_refl _) (dko_empty I), rfl, h _ (I.hok.fresh (Nat.le_refl _))⟩
  | I h => exact wpAny_Dict_empty ⟨.ref s.heap.objs.size, _, I.laid (a := s.heap.objs.size) (o := DkO kI s.heap.objs.size []) (t' := s.toks) (fun _ _ q => Heap.get?_push_of_some _ q) (Nat.le_refl _) (dko_empty I), rfl, h _ (I.hok.fresh (Nat.le_refl _))⟩
/-! ### d.setdefault(y, z): what is there; the heap behind it if nothing is -/
inductive SdR (H : Hp) (a : Addr) (y z : V) : Option V → Hp → Prop where
  | K {kvs : List (Key × V)} {k : Key} (e : H a = some (.dK kvs)) (ey : y = kV k) (l : kvs.length < sizeLine) : SdR H a y z (valV kvs k) (upd H a (.dK (putK kvs k z)))
  | T {kvs : List (List Key × V)} {k : List Key} {b : Addr} (e : H a = some (.dT kvs)) (ey : y = .ref b) (eb : H b = some (.tup (k.map kV))) (l : kvs.length < sizeLine) : SdR H a y z (valV kvs k) (upd H a (.dT (putK kvs k z)))
  | B {kvs : List (Option Bool × V)} {k : Option Bool} (e : H a = some (DkO kB a kvs)) (ey : y = obV k) (l : kvs.length < sizeLine) : SdR H a y z (valV kvs k) (upd H a (DkO kB a (putK kvs k z)))
  | I {kvs : List (Option Int × V)} {k : Option Int} (e : H a = some (DkO kI a kvs)) (ey : y = oiV k) (l : kvs.length < sizeLine) : SdR H a y z (valV kvs k) (upd H a (DkO kI a (putK kvs k z)))
/-- any dict -/
inductive IsDX (H : Hp) (a : Addr) : Prop where
  | K (kvs : List (Key × V)) (e : H a = some (.dK kvs))
  | T (kvs : List (List Key × V)) (e : H a = some (.dT kvs))
  | B (kvs : List (Option Bool × V)) (e : H a = some (DkO kB a kvs))
  | I (kvs : List (Option Int × V)) (e : H a = some (DkO kI a kvs))
structure Sdf (H : Hp) (a : Addr) (y z : V) (Q : VK) : Prop where
  ex : ∃ o H', SdR H a y z o H' ∧ (∀ v, o = some v → Q v H) ∧ (o = none → Q z H')
structure DxC (H : Hp) (a : Addr) (q : Prop) : Prop where
  c : IsDX H a
  q : q
def dSetd (td ty tx : TE) : TE := fun σ H Q => td σ H fun x H1 => match x with
  | .ref a => DxC H1 a (ty σ H1 fun y H2 => tx σ H2 fun z H3 => Sdf H3 a y z Q)
  | _ => False
section
variable {X : Cx} {pins : List (Addr × Obj)} {σ : L2.St} {H : Hp} {s : Shared} {a : Addr} {A : Around} {E : Value → Shared → Prop}
theorem isDX_at (I : Inv X pins σ H s) (d : IsDX H a) : s.TypeIs (.ref a) "dict" ∧ ∀ b, Value.ref a = .ref b → ∃ ob, s.heap.get? b = some ob ∧ ob.dict = none := by
  have key : ∀ {κ : Type} [DecidableEq κ] {knd : KeyKind X.prog X.w κ} {vs : List (κ × Value)}, s.heap.DictOf knd a vs → s.TypeIs (.ref a) "dict" ∧ ∀ b, Value.ref a = .ref b → ∃ ob, s.heap.get? b = some ob ∧ ob.dict = none := by
    intro κ _ knd vs dd
    refine ⟨dd.typeIs, fun b q => ?_⟩
    cases q
    obtain ⟨ob, _, _, h1, h2, _⟩ := dd
    exact ⟨ob, h1, h2.2.1⟩
  cases d with
  | K kvs e => exact let ⟨h1, h2, _⟩ := isD_at I (.inl ⟨_, .inl e⟩); ⟨h1, h2⟩
  | T kvs e => exact let ⟨h1, h2, _⟩ := isD_at I (.inr ⟨_, .inl e⟩); ⟨h1, h2⟩
  | B kvs e => obtain ⟨_, _, vs, _, d⟩ := dko_of I e; exact key d
  | I kvs e => obtain ⟨_, _, vs, _, d⟩ := dko_of I e; exact key d
theorem dko_setd {κ : Type} [DecidableEq κ] {k : Dk κ} {kvs : List (κ × V)} {key : κ} {d : V} {u r : Value} {Q : Value → Shared → Prop} (I : Inv X pins σ H s) (e : H a = some (DkO k a kvs)) (ry : RelV (k.kv key) u) (rd : RelV d r) (hl : kvs.length < sizeLine)
    (h1 : ∀ v, valV kvs key = some v → ∀ (w' : Value) (s' : Shared), Inv X pins σ H s' → RelV v w' → Q w' s') (h2 : valV kvs key = none → ∀ (w' : Value) (s' : Shared), Inv X pins σ (upd H a (DkO k a (putK kvs key d))) s' → RelV d w' → Q w' s') :
    wpAny (model X.prog X.w) A (call (.builtin "dict.setdefault") [.ref a, u, r]) Q E s := by
  obtain ⟨z, hd, vs, rel, dd⟩ := dko_of I e
  have hz : vs.length ≤ sizeLine := by
    rw [← rel.length]
    exact z
  refine call_meetsIn PySem.F.slot_dict_setdefault dd.typeIs PySem.F.entry_dict_setdefault (PySem.F.args_dict_setdefault_3 _ _ _) (kt_meets_setdefault (k.kd X.prog X.w) a ((k.rel _ _ _ _).mpr ry) hd r) ⟨vs, dd, hz, fun v hv => ?_, fun hn h' dd' hs => ?_⟩
  · have q := rel.val key
    rw [hv] at q
    cases q0 : valV kvs key with
    | none =>
      rw [q0] at q
      exact (show False from q).elim
    | some v0 =>
      rw [q0] at q
      exact h1 v0 q0 _ _ (I.tok _) q
  · have q := rel.val key
    rw [hn] at q
    cases q0 : valV kvs key with
    | some v0 =>
      rw [q0] at q
      exact (show False from q).elim
    | none =>
      have hl2 : (putK kvs key d).length ≤ sizeLine := by
        have := length_putK kvs key d
        omega
      have he : ∃ q, h'.get? a = some q := let ⟨q, _, _, hq, _⟩ := dd'; ⟨q, hq⟩
      exact h2 q0 _ _ (d_write (t' := s.toks + 1) I (by rw [e]; exact True.intro) hs he (dko_new hl2 hd (rel.put key rd) dd')) rd
theorem dt_setd {kvs : List (List Key × V)} {key : List Key} {b : Addr} {d : V} {r : Value} {Q : Value → Shared → Prop} (hu : A.units + 1 < cLine) (I : Inv X pins σ H s) (e : H a = some (.dT kvs)) (eb : H b = some (.tup (key.map kV))) (rd : RelV d r) (hl : kvs.length < sizeLine)
    (h1 : ∀ v, valV kvs key = some v → ∀ (w' : Value) (s' : Shared), Inv X pins σ H s' → RelV v w' → Q w' s') (h2 : valV kvs key = none → ∀ (w' : Value) (s' : Shared), Inv X pins σ (upd H a (.dT (putK kvs key d))) s' → RelV d w' → Q w' s') :
    wpAny (model X.prog X.w) A (call (.builtin "dict.setdefault") [.ref a, .ref b, r]) Q E s := by
  obtain ⟨z, hd, xs, rel, dd⟩ := dt_of I.hok e
  have hz : xs.length ≤ sizeLine := by rw [← Paired.length rel]; exact z
  have hl2 : (putK kvs key d).length ≤ sizeLine := by have := length_putK kvs key d; omega
  refine call_setdefault_heap (hsz := hz) (tupleKind_room_in1 hu) (key_of I.hok eb) hd dd (fun p hp => ?_) fun hn h' dd' hs => ?_
  · have q := rel.val key
    rw [hp] at q
    cases q0 : valV kvs key with
    | none =>
      rw [q0] at q
      exact (show False from q).elim
    | some v0 =>
      rw [q0] at q
      exact h1 v0 q0 _ _ (I.tok _) q
  · have q := rel.val key
    rw [hn] at q
    cases q0 : valV kvs key with
    | some v0 =>
      rw [q0] at q
      exact (show False from q).elim
    | none =>
      obtain ⟨q, es, ep, hq, h2', h3, h4, _, h5⟩ := dd'
      refine h2 q0 _ _ (d_write I (by rw [e]; exact True.intro) hs ⟨q, hq⟩ ⟨hl2, hd, _, (rel.put key eb rd).keeps fun c ys ec => ?_, q, es, ep, hq, h2', h3, h4, h5⟩) rd
      rw [upd_ne (ne_of ec e (fun z => nomatch z))]
      exact ec
end
theorem pe_setd {X : Cx} {o e f : Expr} {td ty tx : TE} {apos cpos : Pos} (hu : X.A.units + 64 < cLine) (ho : PE X o td) (he : PE X e ty) (hf : PE X f tx) (hb : attributeBase o "setdefault" X.env (eval o X.env) = eval o X.env := by rfl)
    (hfew : ((backTo cpos (starEach [e, f] X.env)).all (fun x => !x.1) && (backToKw cpos (keywordEach [] X.env)).all (fun x => x.1.isSome)
      && decide (([e, f] : List Expr).length + ([] : List Keyword).length + (if ([] : List Keyword).isEmpty then 0 else 1) < 30)) = true := by rfl) (hline : (apos.endLine == cpos.line) = true := by rfl) (htr : backTo cpos (starEach [e, f] X.env) = [(false, eval e X.env), (false, eval f X.env)] := by rfl) :
    PE X (.Call (.Attribute o "setdefault" apos) [e, f] [] cpos) (dSetd td ty tx) := by
  refine ⟨fun pins s σ H Q I h => ?_⟩
  refine wpAny_Call_method hb hfew hline PySem.F.plainAttrs_dict PySem.F.slot_dict_setdefault PySem.F.type_dict_setdefault (thn (ho.run pins s σ H _ I h) fun u s1 ⟨x, H1, I1, rx, q1⟩ => ?_)
  cases x <;> try exact q1.elim
  rename_i a
  obtain ⟨d, q1⟩ := q1
  obtain rfl : u = Value.ref a := rx
  obtain ⟨t1, t2⟩ := isDX_at I1 d
  refine ⟨t1, t2, ?_⟩
  rw [htr]
  refine Calls.callWith_builtin rfl (Calls.evalArgs_plain (Calls.spliced_cons (thn (he.run pins s1 σ H1 _ I1 q1) fun iv s2 ⟨y, H2, I2, ry, q2⟩ =>
    Calls.spliced_cons (thn (hf.run pins s2 σ H2 _ I2 q2) fun fv s3 ⟨z, H3, I3, rz, q3⟩ => Calls.spliced_nil ?_))))
  obtain ⟨⟨ov, H4, r, p3, p4⟩⟩ := q3
  cases r with
  | K e ey l =>
    subst ey
    exact d_setd I3 e ry rz l (fun v hv w' s4 I4 rw' => ⟨v, _, I4, rw', p3 v hv⟩) fun hn w' s4 I4 rw' => ⟨z, _, I4, rw', p4 hn⟩
  | T e ey eb l =>
    subst ey
    obtain rfl : iv = _ := ry
    exact dt_setd (by omega) I3 e eb rz l (fun v hv w' s4 I4 rw' => ⟨v, _, I4, rw', p3 v hv⟩) fun hn w' s4 I4 rw' => ⟨z, _, I4, rw', p4 hn⟩
  | B e ey l =>
    subst ey
    exact dko_setd (k := kB) I3 e ry rz l (fun v hv w' s4 I4 rw' => ⟨v, _, I4, rw', p3 v hv⟩) fun hn w' s4 I4 rw' => ⟨z, _, I4, rw', p4 hn⟩
  | I e ey l =>
    subst ey
    exact dko_setd (k := kI) I3 e ry rz l (fun v hv w' s4 I4 rw' => ⟨v, _, I4, rw', p3 v hv⟩) fun hn w' s4 I4 rw' => ⟨z, _, I4, rw', p4 hn⟩
/-! ### len(d) -/
inductive LenD (H : Hp) (a : Addr) : Nat → Prop where
  | K {kvs : List (Key × V)} (e : H a = some (.dK kvs)) : LenD H a kvs.length
  | T {kvs : List (List Key × V)} (e : H a = some (.dT kvs)) : LenD H a kvs.length
  | B {kvs : List (Option Bool × V)} (e : H a = some (DkO kB a kvs)) : LenD H a kvs.length
  | I {kvs : List (Option Int × V)} (e : H a = some (DkO kI a kvs)) : LenD H a kvs.length
structure LnD (H : Hp) (a : Addr) (Q : VK) : Prop where
  ex : ∃ n : Nat, LenD H a n ∧ Q (.int n) H
def cLenD : List V → Hp → VK → Prop := fun xs H Q => match xs with
  | [.ref p] => LnD H p Q
  | _ => False
theorem c_lenD {X : Cx} : CallR X (.builtin "len") cLenD := by
  intro pins s σ H xs us Q I r h
  match xs, h with
  | [.ref p], ⟨⟨n, h, q⟩⟩ =>
    rw [Vals.ref1 r]
    have key : ∀ {κ : Type} [DecidableEq κ] {k : Dk κ} {kvs : List (κ × V)}, H p = some (DkO k p kvs) → Q (.int kvs.length) H → wpAny (model X.prog X.w) X.A (call (.builtin "len") [.ref p]) (EP X pins σ Q) X.xe s := by
      intro κ _ k kvs e q
      obtain ⟨z, hd, vs, rel, dd⟩ := dko_of I e
      refine call_len_dict hd dd (by rw [← rel.length]; rw [sizeLine_eq] at z; omega) ?_
      rw [← rel.length]
      exact ⟨.int kvs.length, H, I.tok _, ⟨_, rfl⟩, q⟩
    cases h with
    | K e => exact d_len I (.inl e) fun t s' I' => ⟨.int _, H, I', ⟨_, rfl⟩, q⟩
    | T e => exact call_len_dT pins s σ H [.ref p] [.ref p] Q I (.cons rfl .nil) ⟨p, _, rfl, e, q⟩
    | B e => exact key e q
    | I e => exact key e q
/-! ### list(d) -/
inductive LsD (K : Frag) (H : Hp) (a : Addr) (Q : VK) : Prop where
  | L (h : Rd K H a (fun ys => NewL H ys Q))
  | K {kvs : List (Key × V)} (e : H a = some (.dK kvs)) (q : NewL H (kvs.map fun p => kV p.1) Q)
  | T {kvs : List (List Key × V)} (e : H a = some (.dT kvs)) (q : ∀ bs : List Addr, Paired (fun b k => H b = some (.tup (k.map kV))) bs (kvs.map (·.1)) → NewL H (bs.map V.ref) Q)
  | B {kvs : List (Option Bool × V)} (e : H a = some (DkO kB a kvs)) (q : NewL H (kvs.map fun p => obV p.1) Q)
  | I {kvs : List (Option Int × V)} (e : H a = some (DkO kI a kvs)) (q : NewL H (kvs.map fun p => oiV p.1) Q)
def cListX (K : Frag) : List V → Hp → VK → Prop := fun xs H Q => match xs with
  | [.ref p] => LsD K H p Q
  | _ => False
theorem keys_atK {κ : Type} [DecidableEq κ] {k : Dk κ} {P : Program} {w : World} : ∀ {us : List Value} {vs : List (κ × Value)}, us.length = vs.length → (∀ (j : Nat) (v : Value), us[j]? = some v → ∃ (q : κ) (x : Value), vs[j]? = some (q, x) ∧ (k.kd P w).is q v = true) → Vals (vs.map fun p => k.kv p.1) us
  | [], [], _, _ => .nil
  | [], _ :: _, hl, _ => by simp at hl
  | _ :: _, [], hl, _ => by simp at hl
  | u :: us, q :: vs, hl, h => by
    obtain ⟨q', x, e1, e2⟩ := h 0 u rfl
    have e1' : q = (q', x) := Option.some.inj e1
    subst e1'
    rw [List.map_cons]
    refine .cons ((k.rel P w q' u).mp e2) (keys_atK (P := P) (w := w) (by simpa using hl) fun j v e => ?_)
    obtain ⟨q, x, a, b⟩ := h (j + 1) v (by simpa using e)
    exact ⟨q, x, by simpa using a, b⟩
theorem c_listX {X : Cx} (hc : X.calm = true) : CallR X (.type "list") (cListX X.K) := by
  intro pins s σ H xs us Q I r h
  match xs, h with
  | [.ref p], h =>
    have key : ∀ {κ : Type} [DecidableEq κ] {k : Dk κ} {kvs : List (κ × V)}, H p = some (DkO k p kvs) → NewL H (kvs.map fun q => k.kv q.1) Q → wpAny (model X.prog X.w) X.A (call (.type "list") us) (EP X pins σ Q) X.xe s := by
      intro κ _ k kvs e q
      rw [Vals.ref1 r]
      obtain ⟨z, lo, vs, rel, dd⟩ := dko_of I e
      obtain ⟨ep, hat⟩ := dd.dictAt
      have ek : (kvs.map fun q => k.kv q.1) = vs.map fun p => k.kv p.1 := by
        have e := congrArg (List.map k.kv) rel.keys
        rw [List.map_map, List.map_map] at e
        exact e
      refine PySem.W.kdl_call (PySem.W.kdl_dict (knd := k.kd X.prog X.w) (kvs := vs) (ep := ep) lo) (I.ok.hd hc) hat (by rw [← rel.length]; exact z) fun h' tk acc c' hk hD hacc => ?_
      have hv : Vals (vs.map fun p => k.kv p.1) acc.toList := keys_atK (P := X.prog) (w := X.w) (by rw [Array.length_toList]; exact hacc.1) fun j v e => hacc.2 j v (by rw [← Array.getElem?_toList]; exact e)
      refine ⟨.ref s.heap.objs.size, upd H s.heap.objs.size (.lst (kvs.map fun q => k.kv q.1)), I.laid (t' := tk) hk (Nat.le_refl _)
        (show ObjOk X.prog X.w _ _ _ (.lst (kvs.map fun q => k.kv q.1)) from ⟨by rw [List.length_map]; exact z, acc.toList, c', by rw [ek]; exact hv, by rw [Array.toArray_toList]; exact hD⟩), rfl, q.go _ (I.hok.fresh (Nat.le_refl _))⟩
    cases h with
    | L h => exact c_list pins s σ H [.ref p] us Q I r h
    | K e q => exact call_listD hc pins s σ H [.ref p] us Q I r ⟨p, _, rfl, .inl e, q.go⟩
    | B e q => exact key e q
    | I e q => exact key e q
    | T e q =>
      rename_i kvs
      rw [Vals.ref1 r]
      obtain ⟨z, lo, xs, rel, dd⟩ := dt_of I.hok e
      obtain ⟨es, ep, hr, hs, he⟩ := dd.raw
      have lx : kvs.length = xs.length := Paired.length rel
      refine PySem.W.kdl_call (PySem.KdlSrc.rawDict (prog := X.prog) (w := X.w) (d := p) (es := es) (ep := ep) lo) (I.ok.hd hc) hr (by rw [hs, ← lx]; exact z) fun h' tk acc c' hk hD hacc => ?_
      have hb : Paired (fun b k => H b = some (.tup (k.map kV))) (xs.map fun x => x.2.1) (kvs.map (·.1)) := by
        clear q hacc hD he hs hr dd e z lx
        induction rel with
        | nil => exact .nil
        | cons h t ih => exact .cons h.2.1 ih
      have hv : Vals ((xs.map fun x => x.2.1).map V.ref) acc.toList := by
        have ea : acc.toList = xs.map fun x => Value.ref x.2.1 := by
          apply List.ext_getElem?
          intro j
          by_cases hj : j < xs.length
          · have hja : j < acc.toList.length := by rw [Array.length_toList, hacc.1, hs]; exact hj
            have e1 : acc.toList[j]? = some acc.toList[j] := List.getElem?_eq_getElem hja
            obtain ⟨hi, e2⟩ := hacc.2 j _ (by rw [← Array.getElem?_toList]; exact e1)
            obtain ⟨y, hy, h1, _⟩ := he j hi
            rw [e1, e2, h1, List.getElem?_map, hy]; rfl
          · rw [List.getElem?_eq_none (by rw [Array.length_toList, hacc.1, hs]; omega), List.getElem?_eq_none (by rw [List.length_map]; omega)]
        rw [ea, List.map_map]
        clear hb
        induction xs with
        | nil => exact .nil
        | cons x xs ih => exact vals_maps (fun x : List Key × Addr × Value => V.ref x.2.1) (fun x => Value.ref x.2.1) (x :: xs) fun _ _ => rfl
      refine ⟨.ref s.heap.objs.size, upd H s.heap.objs.size (.lst ((xs.map fun x => x.2.1).map V.ref)), I.laid (t' := tk) hk (Nat.le_refl _)
        (show ObjOk X.prog X.w _ _ _ (.lst ((xs.map fun x => x.2.1).map V.ref)) from ⟨by rw [List.length_map, List.length_map, ← lx]; exact z, acc.toList, c', hv, by rw [Array.toArray_toList]; exact hD⟩), rfl, (q _ hb).go _ (I.hok.fresh (Nat.le_refl _))⟩
/-! ### for x in reversed(a) -/
structure RevW (K : Frag) (H : Hp) (a : Addr) (R : It → Hp → Prop) : Prop where
  ex : ∃ xs, (SqL K H a xs ∧ R (Itv K a xs.length) H) ∨ (SqT K H a xs ∧ R (RT.ItvT K a xs.length) H)
def iRev (K : Frag) (te : TE) : TI := fun σ H R => te σ H fun v H1 => match v with
  | .ref a => RevW K H1 a R
  | _ => False
theorem pi_rev {X : Cx} {tg e : Expr} {te : TE} {p pos : Pos} (hg : Gl X "reversed") (hm : X.mg "reversed" = none) (he : PE X e te) (hs : starEach [e] X.env = (false, eval e X.env) :: starEach [] X.env := by rfl) : PI X tg (.Call (.Name "reversed" p) [e] [] pos) (iRev X.K te) := by
  refine ⟨fun pins s σ H R I h => ?_⟩
  refine (RT.pi_revA hg hm (pe_up he) hs).run pins s σ H R I ⟨_, h, fun v H1 q => ?_⟩
  cases v <;> try exact q.elim
  obtain ⟨xs, q⟩ := q.ex
  exact ⟨_, xs, rfl, q⟩
theorem for_rev {K : Frag} {p : Addr} {xs : List V} {g : TG} {tb : TS} {D : L2.Ends} {σ : L2.St} {H : Hp} (Pv : Nat → L2.St → Hp → Prop) (hx : SqA K H p xs) (h0 : Pv 0 σ H) (hl : ∀ i σ H', Pv i σ H' → Stay K p H H')
    (hs : ∀ (i : Nat) (x : V) (σ : L2.St) (H : Hp), i < xs.length → xs[xs.length - 1 - i]? = some x → Pv i σ H → g x σ H fun σ2 H2 => tb { D with nx := Pv (i + 1), ct := Pv (i + 1), bk := D.nx } σ2 H2) (hd : ∀ σ H, Pv xs.length σ H → D.nx σ H) :
    RevW K H p (LoopR D g tb σ) := by
  rcases hx with hx | hx
  · exact ⟨xs, .inl ⟨hx, RT.for_Itv Pv h0 (fun i σ H' q => (hl i σ H' q xs).1 hx) hs hd⟩⟩
  · exact ⟨xs, .inr ⟨hx, RT.for_ItvT Pv h0 (fun i σ H' q => (hl i σ H' q xs).2 hx) hs hd⟩⟩
/-! ### d[i], i a number -/
def oIxN (K : Frag) : R2 := fun x y H Q => match x, y with
  | .ref a, .int i => DG H a (.int i) fun v => Q v H
  | _, _ => False
theorem DG.n {H : Hp} {a : Addr} {kvs : List (Key × V)} {i : Int} {v : V} {k : V → Prop} (e : L2.Rd H a (.dK kvs)) (l : valV kvs (.inl i) = some v) (q : k v) : DG H a (.int i) k := ⟨v, dget_k (k := .inl i) e l, q⟩
theorem ix_dictN {X : Cx} (hu : X.A.units + 64 < cLine) : IxR X (oIxN X.K) := by
  intro e1 e2 pins s σ H x y v u Q I rx ry q hs
  cases x <;> cases y <;> try exact q.elim
  obtain ⟨z, g, q9⟩ := q.ex
  cases rx
  exact tail_any (dict_typeIs I g) PySem.F.slot_dict_getitem.lookup (d_getItem (by omega) I g ry fun w' s' I' rw' => ⟨z, H, I', rw', q9⟩) hs
end S
namespace S
open PySem PySem.Spec PyProof.Rows L2
end S
namespace S
open PySem PySem.Spec PyProof.Rows L2
end S

namespace S
open PySem PySem.Spec PyProof.Rows L2
def top (i : Nat) : Stmt := PySem.Challenge.pw_slicedcolumns_k50_reduced_once.main.body.getD i (.Pass ⟨0, 0, 0, 0⟩)
abbrev s__law_draw : Stmt := top 6
abbrev s__law_table : Stmt := top 10
abbrev s__law_ids : Stmt := top 11
abbrev s__law_place : Stmt := top 12
abbrev s__law_twin : Stmt := top 13
abbrev s__law_changed : Stmt := top 14
abbrev s_numbered_once : Stmt := top 1
abbrev s_class_levels : Stmt := top 2
abbrev s_first_nodes : Stmt := top 3
abbrev s_reduced : Stmt := top 4
abbrev s__law_same : Stmt := top 7
abbrev s__law_answers : Stmt := top 8
abbrev s__law_run : Stmt := top 9
abbrev s_law : Stmt := top 15
def hfn : List DfX := (⟨fun K => He.fAd K ("_law_draw", none), "_law_draw", "_law_draw", defArgs s__law_draw, defBody s__law_draw, defScope s__law_draw, [], [], []⟩ : DfX) :: (⟨fun K => He.fAd K ("_law_table", none), "_law_table", "_law_table", defArgs s__law_table, defBody s__law_table, defScope s__law_table, [], [], []⟩ : DfX) :: (⟨fun K => He.fAd K ("_law_ids", none), "_law_ids", "_law_ids", defArgs s__law_ids, defBody s__law_ids, defScope s__law_ids, [], [], []⟩ : DfX) :: (⟨fun K => He.fAd K ("_law_place", none), "_law_place", "_law_place", defArgs s__law_place, defBody s__law_place, defScope s__law_place, [], [], []⟩ : DfX) :: (⟨fun K => He.fAd K ("_law_twin", none), "_law_twin", "_law_twin", defArgs s__law_twin, defBody s__law_twin, defScope s__law_twin, [], [], []⟩ : DfX) :: (⟨fun K => He.fAd K ("_law_changed", none), "_law_changed", "_law_changed", defArgs s__law_changed, defBody s__law_changed, defScope s__law_changed, [], [], []⟩ : DfX) :: (⟨fun K => He.fAd K ("numbered_once", none), "numbered_once", "numbered_once", defArgs s_numbered_once, defBody s_numbered_once, defScope s_numbered_once, [], [], []⟩ : DfX) :: (⟨fun K => He.fAd K ("class_levels", none), "class_levels", "class_levels", defArgs s_class_levels, defBody s_class_levels, defScope s_class_levels, [], [], []⟩ : DfX) :: (⟨fun K => He.fAd K ("first_nodes", none), "first_nodes", "first_nodes", defArgs s_first_nodes, defBody s_first_nodes, defScope s_first_nodes, [], [], []⟩ : DfX) :: (⟨fun K => He.fAd K ("reduced", none), "reduced", "reduced", defArgs s_reduced, defBody s_reduced, defScope s_reduced, [], [], []⟩ : DfX) :: (⟨fun K => He.fAd K ("_law_same", none), "_law_same", "_law_same", defArgs s__law_same, defBody s__law_same, defScope s__law_same, [], [], []⟩ : DfX) :: (⟨fun K => He.fAd K ("_law_answers", none), "_law_answers", "_law_answers", defArgs s__law_answers, defBody s__law_answers, defScope s__law_answers, [], [], []⟩ : DfX) :: (⟨fun K => He.fAd K ("_law_run", none), "_law_run", "_law_run", defArgs s__law_run, defBody s__law_run, defScope s__law_run, [], [], []⟩ : DfX) :: (⟨fun K => He.fAd K ("law", none), "law", "law", defArgs s_law, defBody s_law, defScope s_law, [], [], []⟩ : DfX) :: []
abbrev hP : Program := PySem.Challenge.rw_slicedcolumns_k50_reduced_once.prog
def hfx : List (Frag → Bool) :=  []
def hfa : List He.Fa := (.glo "_law_answers") :: (.glo "_law_changed") :: (.glo "_law_draw") :: (.glo "_law_ids") :: (.glo "_law_place") :: (.glo "_law_run") :: (.glo "_law_same") :: (.glo "_law_table") :: (.glo "_law_twin") :: (.glo "class_levels") :: (.glo "first_nodes") :: (.glo "law") :: (.glo "numbered_once") :: (.glo "reduced") :: (.free "abs") :: (.free "enumerate") :: (.free "int") :: (.free "len") :: (.free "list") :: (.free "range") :: (.free "reversed") :: (.free "tuple") :: []
abbrev hR : PySem.W.OpenRow := PySem.W.OpenLaw.row PySem.Challenge.rw_slicedcolumns_k50_reduced_once
def hloose : List Str := "numbered_once" :: "class_levels" :: "first_nodes" :: "reduced" :: "_law_draw" :: "_law_same" :: "_law_answers" :: "_law_run" :: "_law_table" :: "_law_ids" :: "_law_place" :: "_law_twin" :: "_law_changed" :: []
def hnm : List Str := "numbered_once" :: "class_levels" :: "first_nodes" :: "reduced" :: "_law_draw" :: "_law_same" :: "_law_answers" :: "_law_run" :: "_law_table" :: "_law_ids" :: "_law_place" :: "_law_twin" :: "_law_changed" :: "law" :: []
abbrev hhk : PySem.W.Hook := hookY hnm hfa hfx hfn
def hob (s : PySem.W.SharedT) : AlX := obsYG hnm hfa hfx hfn (HandSHeadRun.getT s)
theorem hob_eq (s : PySem.W.SharedT) : hob s = hhk.obs s.abs := obsYG_eq (HandSHeadRun.getT_eq s)
section
open HandSHeadRun PySem.W
theorem hq1 (w : World) (os : OsState) : (HandSHeadRun.endF (HandSHeadRun.stepQ (HandSHeadRun.denQ HandSHeadRun.tabQ) hR.prog w) 16000 hR.prog w os).map (fun s => (HandSHeadRun.looksF hR.prog (boot_heap w.params) s.abs, HandSHeadRun.seenQ (PySem.W.view hR.prog [15]) hloose (importedModules hR.prog.main.body) (fun s => xlAt (PySem.W.view hR.prog [15]) [] s && recOk hR.toRowW.records s) s.abs)) = some (true, openGood (PySem.W.view hR.prog [15]) hloose) := by kernel_rfl
theorem hq2 (w : World) (os : OsState) : (HandSHeadRun.endF (HandSHeadRun.stepQ (HandSHeadRun.denQ HandSHeadRun.tabQ) hR.prog w) 16000 hR.prog w os).map (fun s => hob s) = some (hhk.val w) := by kernel_rfl
end
theorem hrun (w : World) : HandSHeadRun.RunEq hR (PySem.W.view hR.prog [15]) hhk hob 16000 hloose w := by
  intro os
  exact run_split2 (hq1 w os) (hq2 w os)
end S
/-! ## short tactics (local rows) -/
open PySem PySem.Spec PyProof.Rows L2 S in
local macro_rules | `(tactic| walk_at "ne") => `(tactic| first | assumption | (apply Ne.symm; assumption) | (apply ne_of_none <;> assumption))
open PySem PySem.Spec PyProof.Rows L2 S in
local macro_rules | `(tactic| walk_at "hp") => `(tactic| first | assumption | exact upd_same | (refine' up_of ?n1 ?h1; (case n1 => walk_at "ne"); (case h1 => walk_at "hp")))
open PySem PySem.Spec PyProof.Rows L2 S in
local macro_rules | `(tactic| walk_at "sx") => `(tactic| first | assumption | exact SameX.refl _ _ | (refine' SameX.put ?h1; (case h1 => walk_at "sx")))
open PySem PySem.Spec PyProof.Rows L2 S in
local macro_rules | `(tactic| walk_at "sl") => `(tactic| first | assumption | (refine' appS ?h1 ?e1; (case h1 => assumption); (case e1 => walk_at "sx")) | (refine' sl_upd ?h1 ?n1; (case n1 => walk_at "ne"); (case h1 => walk_at "sl")))
open PySem PySem.Spec PyProof.Rows L2 S in
local macro_rules | `(tactic| walk_at "st") => `(tactic| first | assumption | (refine' st_upd ?h1 ?n1; (case n1 => walk_at "ne"); (case h1 => walk_at "st")))
open PySem PySem.Spec PyProof.Rows L2 S in
local macro_rules | `(tactic| walk_at "ar") => `(tactic| first | omega | decide | (exact ⟨by decide, by decide⟩) | (exact ⟨by decide, by decide, by decide⟩) | (simp only [CDiv, CPow, CMul]; omega) | (exact .inl (by omega)) | (exact .inr (by omega)) | (simp only [sizeLine_eq, List.length_map, List.length_cons, List.length_nil, List.length_append, List.length_reverse]; omega))
open PySem PySem.Spec PyProof.Rows L2 S in
local macro_rules | `(tactic| walk_at "rd") => `(tactic| first
  | (refine' Rd.l ?h1 ?h2; (case h1 => walk_at "hp"))
  | (refine' Rd.sl ?h1 ?h2; (case h1 => walk_at "sl"))
  | (refine' Rd.st ?h1 ?h2; (case h1 => walk_at "st"))
  | (refine' Rd.sa ?h1 ?h2; (case h1 => assumption))
  | (refine' S.At.of ?h1 ?h2; (case h1 => (first | rfl | assumption)))
  | (refine' Ls.of ?h1 ?h2; (case h1 => walk_at "hp"))
  | (refine' IsL.of ?h1 ?h2; (case h1 => walk_at "hp"))
  | (refine' Pl.of ?h1 ?h2; (case h1 => rfl))
  | (refine' Need.mk ?h1 ?h2; (case h1 => walk_at "ar")))
open PySem PySem.Spec PyProof.Rows L2 S in
local macro_rules | `(tactic| walk_at "go") => `(tactic| (repeat walk_at "rd"))
open PySem PySem.Spec PyProof.Rows L2 S in
local macro_rules | `(tactic| walk_at "gx") => `(tactic| (repeat (first | walk_at "rd" | refine' Stop.mk ?_)))
/-! ## the laws' own harness: draws -/
namespace S
open PySem PySem.Spec PyProof.Rows L2
theorem at_ints {ns : List Int} {i : Int} (h0 : 0 ≤ i) (h1 : i < ns.length) : ∃ x, atI (ns.map V.int) i = some (.int x) := by
  obtain ⟨j, rfl⟩ := Int.eq_ofNat_of_zero_le h0
  have hl : j < ns.length := by omega
  refine ⟨ns[j], atI_nat ?_⟩
  rw [List.getElem?_map, List.getElem?_eq_getElem hl]
  rfl
/-- the state of the draws: place, left, number, kind -/
def DrawSt (l : List V) : Prop := ∃ a b n k : Int, l = [.int a, .int b, .int n, .int k] ∧ 0 ≤ a ∧ 0 ≤ n ∧ (b = 0 ∨ k = 2 ∨ n < 10 ^ 18)
/-- the script at a: the calls leave it -/
def ScrAt (K : Frag) (H : Hp) (a st : Addr) (ns : List Int) : Prop := (a ≠ st ∧ SqL K H a (ns.map V.int)) ∨ ∀ H', SqL K H' a (ns.map V.int)
/-- the script at a, the state at st -/
structure Ctx (K : Frag) (H : Hp) (a st : Addr) : Prop where
  scr : ∃ ns : List Int, ScrAt K H a st ns
  stt : ∃ l, H st = some (.lst l) ∧ DrawSt l
theorem ScrAt.sl {K : Frag} {H : Hp} {a st : Addr} {ns : List Int} (h : ScrAt K H a st ns) : SqL K H a (ns.map V.int) := by
  rcases h with ⟨_, h⟩ | h
  · exact h
  · exact h H
theorem ScrAt.x {K : Frag} {H H' : Hp} {a st : Addr} {ns : List Int} (h : ScrAt K H a st ns) (e : SameX st H H') : ScrAt K H' a st ns := by
  rcases h with ⟨n, h⟩ | h
  · exact .inl ⟨n, e.seq h n⟩
  · exact .inr h
theorem ScrAt.same {K : Frag} {H H' : Hp} {a st : Addr} {ns : List Int} (h : ScrAt K H a st ns) (e : Same H H') : ScrAt K H' a st ns := h.x (Same.x e)
theorem Ctx.same {K : Frag} {H H' : Hp} {a st : Addr} (c : Ctx K H a st) (e : Same H H') : Ctx K H' a st := by
  obtain ⟨⟨ns, h⟩, l, hl, d⟩ := c
  exact ⟨⟨ns, h.same e⟩, l, e _ _ hl, d⟩
def sp__law_draw (K : Frag) : Sp := fun vs H Q _ => ∃ (a st : Addr) (base : Int), vs = [.ref a, .ref st, .int base] ∧ Ctx K H a st ∧ 0 < base ∧
  ∀ (r : Int) (H' : Hp), 0 ≤ r → r < base → Ctx K H' a st → SameX st H H' → Q (.int r) H'
/-- a list made behind H0 may change -/
theorem SameX.mut {st : Addr} {H0 H1 : Hp} {p : Addr} {o : HO} (e : SameX st H0 H1) (n : H0 p = none) : SameX st H0 (L2.upd H1 p o) := fun b u h k => by
  rw [upd_ne (ne_of_none h n)]
  exact e b u h k
theorem Same.mut {H0 H1 : Hp} {p : Addr} {o : HO} (e : Same H0 H1) (n : H0 p = none) : Same H0 (upd H1 p o) := fun b u h => by
  rw [upd_ne (ne_of_none h n)]
  exact e b u h
theorem Ctx.mut {K : Frag} {H0 H1 : Hp} {a st p : Addr} {o : HO} (c : Ctx K H1 a st) (e : Ctx K H0 a st) (n : H0 p = none) : Ctx K (L2.upd H1 p o) a st := by
  obtain ⟨⟨ns, h⟩, l, hl, d⟩ := c
  obtain ⟨⟨ns0, h0⟩, l0, hl0, d0⟩ := e
  have n1 : st ≠ p := ne_of_none hl0 n
  refine ⟨?_, l, by rw [upd_ne n1]; exact hl, d⟩
  rcases h with ⟨na, h⟩ | h
  · by_cases e : a = p
    · subst e
      rcases h0.sl with (h0 | ⟨_, h0⟩) | h0
      · rw [n] at h0; cases h0
      · rw [n] at h0; cases h0
      · exact ⟨ns0, .inr fun H' => .inr h0⟩
    · exact ⟨ns, .inl ⟨na, sl_upd h e⟩⟩
  · exact ⟨ns, .inr h⟩
/-- ends ascending within a size -/
def Ends (size : Int) (ns : List Int) : Prop := ns.Pairwise (· < ·) ∧ ∀ x ∈ ns, 0 ≤ x ∧ x < size
theorem Ends.snoc {size at_ : Int} {ns : List Int} (h : Ends size ns) (hb : ∀ x ∈ ns, x < at_) (h0 : 0 ≤ at_) (h1 : at_ < size) : Ends size (ns ++ [at_]) := by
  refine ⟨List.pairwise_append.mpr ⟨h.1, List.pairwise_singleton _ _, fun x hx y hy => ?_⟩, fun x hx => ?_⟩
  · rw [List.mem_singleton.mp hy]
    exact hb x hx
  · rcases List.mem_append.mp hx with hx | hx
    · exact h.2 x hx
    · rw [List.mem_singleton.mp hx]
      exact ⟨h0, h1⟩
end S
-- deps: D0
/-! ## data compared, isinstance -/
namespace S
open PySem PySem.Spec PyProof.Rows L2
theorem Ends.drop {size : Int} {ns : List Int} (h : Ends size ns) (k : Nat) : Ends size (ns.drop k) := ⟨h.1.sublist (List.drop_sublist k ns), fun x hx => h.2 x (List.mem_of_mem_drop hx)⟩
theorem Ends.filter {size : Int} {ns : List Int} (h : Ends size ns) (p : Int → Bool) : Ends size (ns.filter p) := ⟨h.1.filter p, fun x hx => h.2 x ((List.mem_filter.mp hx).1)⟩
theorem Ends.up {size : Int} {ns : List Int} (h : Ends size ns) : Ends size ((ns.filter fun x => decide (x + 1 < size)).map fun x => x + 1) := by
  refine ⟨List.pairwise_map.mpr ((h.1.filter _).imp fun {a b} hab => by omega), fun x hx => ?_⟩
  obtain ⟨y, hy, rfl⟩ := List.mem_map.mp hx
  have h1 := (List.mem_filter.mp hy)
  have h2 := h.2 y h1.1
  have h3 : y + 1 < size := of_decide_eq_true h1.2
  omega
def sp_law (K : Frag) : Sp := fun vs H Q _ => ∃ (a : Addr) (ns : List Int), vs = [.ref a] ∧ SqL K H a (ns.map V.int) ∧ ∀ H', Q (.bl true) H'
theorem ctx0 {K : Frag} {H : Hp} {a st : Addr} {ns : List Int} (h : SqL K H a (ns.map V.int)) (hs : H st = none) (l : List V) (d : DrawSt l) : Ctx K (upd H st (.lst l)) a st := by
  refine ⟨⟨ns, ?_⟩, _, upd_same, d⟩
  rcases h with h | h
  · have ne : a ≠ st := by
      rintro rfl
      rcases h with h | ⟨_, h⟩
      · rw [hs] at h; cases h
      · rw [hs] at h; cases h
    exact .inl ⟨ne, sl_upd (.inl h) ne⟩
  · exact .inr fun H' => .inr h
theorem ctx_st {K : Frag} {H : Hp} {a st : Addr} (c : Ctx K H a st) : ∃ l, H st = some (.lst l) := let ⟨_, l, h, _⟩ := c; ⟨l, h⟩
theorem ctx_ne {K : Frag} {H : Hp} {a st p : Addr} (c : Ctx K H a st) (n : H p = none) : p ≠ st := by
  obtain ⟨l, h⟩ := ctx_st c
  exact (ne_of_none h n).symm
end S
-- deps: D0 D1
namespace S
open PySem PySem.Spec PyProof.Rows L2
/-- a loop that leaves all that stood at an older heap H0, where the sequence stood -/
theorem for_seq0 {K : Frag} {p : Addr} {xs : List V} {g : TG} {tb : TS} {D : L2.Ends} {σ : L2.St} {H0 H : Hp} (Pv : Nat → L2.St → Hp → Prop) (hx : SqA K H0 p xs) (e0 : Same H0 H) (h0 : Pv 0 σ H) (hl : ∀ i σ H', Pv i σ H' → Same H0 H')
    (hs : ∀ i x σ H, xs[i]? = some x → Pv i σ H → g x σ H fun σ2 H2 => tb { D with nx := Pv (i + 1), ct := Pv (i + 1), bk := D.nx } σ2 H2) (hd : ∀ σ H, Pv xs.length σ H → D.nx σ H) :
    Walk K H p (LoopR D g tb σ) := by
  rcases hx with hx | hx
  · exact ⟨.inl ⟨⟨xs, e0.seq hx⟩, for_list Pv h0 (fun i σ H' hi q => (hl i σ H' q).seq hx) hs hd⟩⟩
  · exact ⟨.inr ⟨⟨xs, Same.tup e0 hx⟩, for_tup Pv h0 (fun i σ H' hi q => Same.tup (hl i σ H' q) hx) hs hd⟩⟩
/-- a loop over a list that stays in its place -/
theorem for_lst {K : Frag} {p : Addr} {xs : List V} {g : TG} {tb : TS} {D : L2.Ends} {σ : L2.St} {H : Hp} (Pv : Nat → L2.St → Hp → Prop) (hx : H p = some (.lst xs)) (h0 : Pv 0 σ H) (hl : ∀ i σ H', Pv i σ H' → H' p = some (.lst xs))
    (hs : ∀ i x σ H, xs[i]? = some x → Pv i σ H → g x σ H fun σ2 H2 => tb { D with nx := Pv (i + 1), ct := Pv (i + 1), bk := D.nx } σ2 H2) (hd : ∀ σ H, Pv xs.length σ H → D.nx σ H) :
    Walk K H p (LoopR D g tb σ) := ⟨.inl ⟨⟨xs, SqL.of hx⟩, for_list Pv h0 (fun i σ H' hi q => SqL.of (hl i σ H' q)) hs hd⟩⟩
end S
-- deps: Fstay
namespace S
open PySem PySem.Spec PyProof.Rows L2
theorem nn_of {H H1 : Hp} {p : Addr} (e : Same H H1) (n : H1 p = none) : H p = none := by
  cases h : H p with
  | none => rfl
  | some o => rw [e _ _ h] at n; cases n
theorem lay_get {α β : Type} {f : α → β} {l : List α} {i : Nat} {y : β} (h : (l.map f)[i]? = some y) : ∃ x, l[i]? = some x ∧ y = f x := by
  rw [List.getElem?_map] at h
  obtain ⟨x, h1, h2⟩ := Option.map_eq_some_iff.mp h
  exact ⟨x, h1, h2.symm⟩
/-! ### first occurrences -/
section
variable {κ ι : Type} [DecidableEq κ] [DecidableEq ι]
def ixF : List κ → κ → Nat
  | [], _ => 0
  | x :: l, k => if x = k then 0 else ixF l k + 1
theorem ixF_cons (x : κ) (l : List κ) (k : κ) : ixF (x :: l) k = if x = k then 0 else ixF l k + 1 := rfl
theorem ixF_lt : ∀ {l : List κ} {k : κ}, k ∈ l → ixF l k < l.length
  | [], _, h => nomatch h
  | x :: l, k, h => by
    unfold ixF
    split
    · simp
    · rename_i n
      rcases List.mem_cons.mp h with e | h
      · exact absurd e.symm n
      · have := ixF_lt h
        rw [List.length_cons]; omega
theorem ixF_get : ∀ {l : List κ} {k : κ}, k ∈ l → l[ixF l k]? = some k
  | [], _, h => nomatch h
  | x :: l, k, h => by
    unfold ixF
    split
    · rename_i e; rw [e]; rfl
    · rename_i n
      rcases List.mem_cons.mp h with e | h
      · exact absurd e.symm n
      · rw [List.getElem?_cons_succ]; exact ixF_get h
theorem ixF_app : ∀ {l m : List κ} {k : κ}, k ∈ l → ixF (l ++ m) k = ixF l k
  | [], _, _, h => nomatch h
  | x :: l, m, k, h => by
    rw [List.cons_append]
    unfold ixF
    by_cases e : x = k
    · rw [if_pos e, if_pos e]
    · rw [if_neg e, if_neg e, ixF_app ((List.mem_cons.mp h).resolve_left fun z => e z.symm)]
theorem ixF_new : ∀ {l m : List κ} {k : κ}, k ∉ l → ixF (l ++ k :: m) k = l.length
  | [], _, _, _ => by rw [List.nil_append]; unfold ixF; rw [if_pos rfl]; rfl
  | x :: l, m, k, h => by
    rw [List.cons_append]
    unfold ixF
    have n : ¬ x = k := fun e => h (by rw [e]; exact List.mem_cons_self)
    rw [if_neg n, ixF_new fun z => h (List.mem_cons_of_mem _ z)]; rfl
theorem ixF_inj {l : List κ} {a b : κ} (ha : a ∈ l) (hb : b ∈ l) (e : ixF l a = ixF l b) : a = b := by
  have h := ixF_get ha
  rw [e, ixF_get hb] at h
  exact (Option.some.inj h).symm
theorem ixF_map {g : κ → ι} : ∀ {l : List κ} {k : κ}, (∀ x ∈ l, g x = g k → x = k) → ixF (l.map g) (g k) = ixF l k
  | [], _, _ => rfl
  | x :: l, k, h => by
    rw [List.map_cons]
    unfold ixF
    by_cases e : x = k
    · rw [if_pos (by rw [e]), if_pos e]
    · rw [if_neg fun z => e (h x List.mem_cons_self z), if_neg e, ixF_map fun y hy => h y (List.mem_cons_of_mem _ hy)]
def addD (acc : List κ) (k : κ) : List κ := if k ∈ acc then acc else acc ++ [k]
def dstA (acc l : List κ) : List κ := l.foldl addD acc
def dst (l : List κ) : List κ := dstA [] l
theorem dstA_app (acc l m : List κ) : dstA acc (l ++ m) = dstA (dstA acc l) m := by unfold dstA; rw [List.foldl_append]
theorem dst_snoc (l : List κ) (k : κ) : dst (l ++ [k]) = addD (dst l) k := by unfold dst; rw [dstA_app]; rfl
theorem mem_addD {acc : List κ} {k x : κ} : x ∈ addD acc k ↔ x ∈ acc ∨ x = k := by
  unfold addD
  split
  · rename_i h; exact ⟨.inl, fun z => z.elim id fun e => e ▸ h⟩
  · rw [List.mem_append, List.mem_singleton]
theorem mem_dstA {x : κ} : ∀ {l acc : List κ}, x ∈ dstA acc l ↔ x ∈ acc ∨ x ∈ l
  | [], acc => by simp [dstA]
  | k :: l, acc => by
    show x ∈ dstA (addD acc k) l ↔ _
    rw [mem_dstA, mem_addD, List.mem_cons, or_assoc]
theorem mem_dst {x : κ} {l : List κ} : x ∈ dst l ↔ x ∈ l := by unfold dst; rw [mem_dstA]; simp
theorem addD_nd {acc : List κ} {k : κ} (h : acc.Nodup) : (addD acc k).Nodup := by
  unfold addD
  split
  · exact h
  · rename_i hk
    rw [List.nodup_append]
    exact ⟨h, by simp, fun a ha b hb => by rw [List.mem_singleton.mp hb]; exact fun e => hk (e ▸ ha)⟩
theorem dstA_nd : ∀ {l acc : List κ}, acc.Nodup → (dstA acc l).Nodup
  | [], _, h => h
  | k :: l, acc, h => dstA_nd (l := l) (addD_nd (k := k) h)
theorem dst_nd {l : List κ} : (dst l).Nodup := dstA_nd .nil
theorem dstA_ext : ∀ (l acc : List κ), ∃ t, dstA acc l = acc ++ t
  | [], acc => ⟨[], by simp [dstA]⟩
  | k :: l, acc => by
    obtain ⟨t, h⟩ := dstA_ext l (addD acc k)
    show ∃ t, dstA (addD acc k) l = _
    rw [h]
    unfold addD
    split
    · exact ⟨t, rfl⟩
    · exact ⟨k :: t, by simp⟩
theorem ix_dst_app {l m : List κ} {k : κ} (h : k ∈ l) : ixF (dst (l ++ m)) k = ixF (dst l) k := by
  unfold dst
  rw [dstA_app]
  obtain ⟨t, e⟩ := dstA_ext m (dstA [] l)
  have hm : k ∈ dstA [] l := mem_dst.mpr h
  rw [e, ixF_app hm]
theorem dst_len (l : List κ) : (dst l).length ≤ l.length := by
  have gen : ∀ (l acc : List κ), (dstA acc l).length ≤ acc.length + l.length := by
    intro l
    induction l with
    | nil => intro acc; simp [dstA]
    | cons k l ih =>
      intro acc
      have := ih (addD acc k)
      have h2 : (addD acc k).length ≤ acc.length + 1 := by unfold addD; split <;> simp
      show (dstA (addD acc k) l).length ≤ _
      rw [List.length_cons]; omega
  have := gen l []
  simpa [dst] using this
theorem dstA_map {g : κ → ι} : ∀ {l acc : List κ}, (∀ x ∈ acc ++ l, ∀ y ∈ acc ++ l, g x = g y → x = y) → dstA (acc.map g) (l.map g) = (dstA acc l).map g
  | [], _, _ => rfl
  | k :: l, acc, h => by
    show dstA (addD (acc.map g) (g k)) (l.map g) = (dstA (addD acc k) l).map g
    have e : addD (acc.map g) (g k) = (addD acc k).map g := by
      unfold addD
      by_cases hk : k ∈ acc
      · rw [if_pos hk, if_pos (List.mem_map_of_mem hk)]
      · rw [if_neg hk, if_neg, List.map_append]; rfl
        intro z
        obtain ⟨y, hy, e⟩ := List.mem_map.mp z
        exact hk (h y (List.mem_append_left _ hy) k (List.mem_append_right _ List.mem_cons_self) e ▸ hy)
    rw [e]
    refine dstA_map fun x hx y hy => ?_
    have m : ∀ z, z ∈ addD acc k ++ l → z ∈ acc ++ k :: l := fun z hz => by
      rcases List.mem_append.mp hz with hz | hz
      · rcases mem_addD.mp hz with hz | hz
        · exact List.mem_append_left _ hz
        · exact List.mem_append_right _ (hz ▸ List.mem_cons_self)
      · exact List.mem_append_right _ (List.mem_cons_of_mem _ hz)
    exact h x (m x hx) y (m y hy)
theorem dst_map {g : κ → ι} {l : List κ} (h : ∀ x ∈ l, ∀ y ∈ l, g x = g y → x = y) : dst (l.map g) = (dst l).map g := dstA_map (acc := []) h
/-- the numbers by first occurrence -/
def num (l : List κ) : List Nat := l.map (ixF (dst l))
theorem num_map {g : κ → ι} {l : List κ} (h : ∀ x ∈ l, ∀ y ∈ l, g x = g y → x = y) : num (l.map g) = num l := by
  unfold num
  rw [dst_map h, List.map_map]
  refine List.map_congr_left fun k hk => ?_
  exact ixF_map fun x hx e => h x (mem_dst.mp hx) k hk e
theorem num_len (l : List κ) : (num l).length = l.length := by unfold num; rw [List.length_map]
theorem num_get {l : List κ} {i : Nat} {k : κ} (h : l[i]? = some k) : (num l)[i]? = some (ixF (dst l) k) := by unfold num; rw [List.getElem?_map, h]; rfl
/-- the first place of a number is a place of its key -/
theorem num_first {l : List κ} {k : κ} (h : k ∈ l) : l[ixF (num l) (ixF (dst l) k)]? = some k := by
  have hm : ixF (dst l) k ∈ num l := List.mem_map_of_mem h
  have h1 := ixF_get hm
  unfold num at h1
  rw [List.getElem?_map] at h1
  obtain ⟨y, hy, e⟩ := Option.map_eq_some_iff.mp h1
  have hyl := List.mem_of_getElem? hy
  have := ixF_inj (mem_dst.mpr hyl) (mem_dst.mpr h) e
  rw [← this]
  unfold num
  rw [← this] at hy
  exact hy
end
/-! ### tables and trees -/
abbrev Lvs := List (List (Nat × Nat))
abbrev Ends3 := List (Option Bool)
inductive BT where
  | lf (o : Option Bool)
  | nd (l r : BT)
  deriving DecidableEq
namespace BT
def l : BT → BT
  | .lf o => .lf o
  | .nd a _ => a
def r : BT → BT
  | .lf o => .lf o
  | .nd _ b => b
def val : BT → Option Bool
  | .lf o => o
  | .nd _ _ => none
def run : BT → List Bool → Option Bool
  | .lf o, _ => o
  | .nd a _, [] => a.val
  | .nd a b, c :: bs => if c then b.run bs else a.run bs
/-- full down to m -/
def full : Nat → BT → Prop
  | 0, .lf _ => True
  | m + 1, .nd a b => full m a ∧ full m b
  | _, _ => False
end BT
def gT (T : List BT) (n : Nat) : BT := T.getD n (.lf none)
/-- the trees of a level's nodes -/
def trees : Lvs → Ends3 → List BT
  | [], es => es.map BT.lf
  | ps :: ls, es => ps.map fun p => .nd (gT (trees ls es) p.1) (gT (trees ls es) p.2)
def wid : Lvs → Ends3 → Nat
  | [], es => es.length
  | ps :: _, _ => ps.length
theorem trees_len (ls : Lvs) (es : Ends3) : (trees ls es).length = wid ls es := by cases ls <;> simp [trees, wid]
/-- each child is there -/
def okT : Lvs → Ends3 → Prop
  | [], _ => True
  | ps :: ls, es => (∀ p ∈ ps, p.1 < wid ls es ∧ p.2 < wid ls es) ∧ okT ls es
theorem okT.drop : ∀ {ls : Lvs} {es : Ends3} (i : Nat), okT ls es → okT (ls.drop i) es
  | _, _, 0, h => h
  | [], _, _ + 1, h => h
  | _ :: _, _, i + 1, h => okT.drop i h.2
theorem gT_get {T : List BT} {n : Nat} (h : n < T.length) : T[n]? = some (gT T n) := by unfold gT; rw [List.getD_eq_getElem?_getD, List.getElem?_eq_getElem h]; rfl
theorem gT_mem {T : List BT} {n : Nat} (h : n < T.length) : gT T n ∈ T := List.mem_of_getElem? (gT_get h)
theorem trees_full : ∀ {ls : Lvs} {es : Ends3}, okT ls es → ∀ t ∈ trees ls es, t.full ls.length
  | [], es, _, t, ht => by
    obtain ⟨o, _, rfl⟩ := List.mem_map.mp ht
    exact True.intro
  | ps :: ls, es, h, t, ht => by
    obtain ⟨p, hp, rfl⟩ := List.mem_map.mp ht
    have ih := trees_full h.2
    obtain ⟨h1, h2⟩ := h.1 p hp
    rw [← trees_len] at h1 h2
    exact ⟨ih _ (gT_mem h1), ih _ (gT_mem h2)⟩
def cls : Lvs → Ends3 → List (List Nat)
  | [], es => [num (trees [] es)]
  | ps :: ls, es => num (trees (ps :: ls) es) :: cls ls es
theorem cls_len (ls : Lvs) (es : Ends3) : (cls ls es).length = ls.length + 1 := by induction ls with
  | nil => rfl
  | cons p l ih => show (_ :: cls l es).length = _; rw [List.length_cons, ih]; rfl
theorem cls_get : ∀ (ls : Lvs) (es : Ends3) (i : Nat), i ≤ ls.length → (cls ls es)[i]? = some (num (trees (ls.drop i) es))
  | [], _, 0, _ => rfl
  | [], _, _ + 1, h => absurd h (Nat.not_succ_le_zero _)
  | _ :: _, _, 0, _ => rfl
  | _ :: ls, es, i + 1, h => by
    show (_ :: cls ls es)[i + 1]? = _
    rw [List.getElem?_cons_succ, cls_get ls es i (Nat.le_of_succ_le_succ h)]; rfl
/-- the least table of trees -/
def chl (F : List BT) : List BT := F.flatMap fun t => [t.l, t.r]
def rowF (F : List BT) : List (Nat × Nat) := F.map fun t => (ixF (dst (chl F)) t.l, ixF (dst (chl F)) t.r)
def lvF : Nat → List BT → List BT
  | 0, F => F
  | i + 1, F => lvF i (dst (chl F))
def canL : Nat → List BT → Lvs
  | 0, _ => []
  | m + 1, F => rowF F :: canL m (dst (chl F))
def canE (m : Nat) (F : List BT) : Ends3 := (lvF m F).map BT.val
theorem lvF_succ : ∀ (i : Nat) (F : List BT), lvF (i + 1) F = dst (chl (lvF i F))
  | 0, _ => rfl
  | i + 1, F => by show lvF (i + 1) (dst (chl F)) = _; rw [lvF_succ i]; rfl
theorem canL_get : ∀ (m : Nat) (F : List BT) (i : Nat), i < m → (canL m F)[i]? = some (rowF (lvF i F))
  | 0, _, _, h => nomatch h
  | _ + 1, _, 0, _ => rfl
  | m + 1, F, i + 1, h => by
    show (_ :: canL m _)[i + 1]? = _
    rw [List.getElem?_cons_succ, canL_get m _ i (Nat.lt_of_succ_lt_succ h)]; rfl
theorem canL_len : ∀ (m : Nat) (F : List BT), (canL m F).length = m
  | 0, _ => rfl
  | m + 1, F => by show (_ :: canL m _).length = _; rw [List.length_cons, canL_len m]
theorem mem_chl {F : List BT} {t : BT} (h : t ∈ F) : t.l ∈ chl F ∧ t.r ∈ chl F := ⟨List.mem_flatMap.mpr ⟨t, h, by simp⟩, List.mem_flatMap.mpr ⟨t, h, by simp⟩⟩
/-- the table of trees has these trees -/
theorem trees_can : ∀ (m : Nat) (F : List BT), (∀ t ∈ F, t.full m) → trees (canL m F) (canE m F) = F ∧ okT (canL m F) (canE m F)
  | 0, F, h => by
    refine ⟨?_, True.intro⟩
    show ((lvF 0 F).map BT.val).map BT.lf = F
    rw [List.map_map]
    show F.map _ = F
    have : F.map (BT.lf ∘ BT.val) = F.map id := List.map_congr_left fun t ht => by
      have := h t ht
      cases t with
      | lf o => rfl
      | nd a b => exact this.elim
    rw [this, List.map_id]
  | m + 1, F, h => by
    have hc : ∀ t ∈ dst (chl F), t.full m := fun t ht => by
      obtain ⟨u, hu, e⟩ := List.mem_flatMap.mp (mem_dst.mp ht)
      have fu := h u hu
      cases u with
      | lf o => exact fu.elim
      | nd a b =>
        simp only [List.mem_cons, List.not_mem_nil, or_false] at e
        rcases e with e | e
        · rw [e]; exact fu.1
        · rw [e]; exact fu.2
    obtain ⟨i1, i2⟩ := trees_can m (dst (chl F)) hc
    have e0 : canE (m + 1) F = canE m (dst (chl F)) := rfl
    have l0 : wid (canL m (dst (chl F))) (canE m (dst (chl F))) = (dst (chl F)).length := by rw [← trees_len, i1]
    refine ⟨?_, fun p hp => ?_, i2⟩
    · show (rowF F).map _ = F
      rw [e0, i1]
      unfold rowF
      rw [List.map_map]
      have : F.map ((fun p : Nat × Nat => BT.nd (gT (dst (chl F)) p.1) (gT (dst (chl F)) p.2)) ∘ fun t => (ixF (dst (chl F)) t.l, ixF (dst (chl F)) t.r)) = F.map id := List.map_congr_left fun t ht => by
        have ⟨m1, m2⟩ := mem_chl ht
        have g : ∀ u, u ∈ chl F → gT (dst (chl F)) (ixF (dst (chl F)) u) = u := fun u hu => by
          have h1 := ixF_get (mem_dst.mpr hu)
          rw [gT_get (ixF_lt (mem_dst.mpr hu))] at h1
          exact Option.some.inj h1
        show BT.nd (gT _ _) (gT _ _) = t
        rw [g _ m1, g _ m2]
        have := h t ht
        cases t with
        | lf o => exact this.elim
        | nd a b => rfl
      rw [this, List.map_id]
    · rw [e0, l0]
      obtain ⟨t, ht, rfl⟩ := List.mem_map.mp hp
      exact ⟨ixF_lt (mem_dst.mpr (mem_chl ht).1), ixF_lt (mem_dst.mpr (mem_chl ht).2)⟩
theorem chl_len (F : List BT) : (chl F).length = 2 * F.length := by
  unfold chl
  induction F with
  | nil => rfl
  | cons t F ih => rw [List.flatMap_cons, List.length_append, ih, List.length_cons]; simp; omega
theorem chl_snoc (F : List BT) (t : BT) : chl (F ++ [t]) = chl F ++ [t.l] ++ [t.r] := by unfold chl; rw [List.flatMap_append]; simp
/-- children of trees of a level are trees of the next one -/
theorem chl_sub {ps : List (Nat × Nat)} {ls : Lvs} {es : Ends3} (ok : okT (ps :: ls) es) {t : BT} (h : t ∈ trees (ps :: ls) es) : t.l ∈ trees ls es ∧ t.r ∈ trees ls es := by
  obtain ⟨p, hp, rfl⟩ := List.mem_map.mp h
  obtain ⟨h1, h2⟩ := ok.1 p hp
  rw [← trees_len] at h1 h2
  exact ⟨gT_mem h1, gT_mem h2⟩
theorem drop_cons {ls : Lvs} {i : Nat} {ps : List (Nat × Nat)} (h : ls[i]? = some ps) : ls.drop i = ps :: ls.drop (i + 1) := by
  obtain ⟨g1, g2⟩ := List.getElem?_eq_some_iff.mp h
  rw [List.drop_eq_getElem_cons g1, g2]
theorem lvF_sub {ls : Lvs} {es : Ends3} (ok : okT ls es) {F : List BT} (hF : ∀ t ∈ F, t ∈ trees ls es) : ∀ i, i ≤ ls.length → ∀ t ∈ lvF i F, t ∈ trees (ls.drop i) es
  | 0, _, t, h => hF t h
  | i + 1, hi, t, h => by
    have il : i < ls.length := hi
    have hg : ls[i]? = some ls[i] := List.getElem?_eq_getElem il
    have ih := lvF_sub ok hF i (Nat.le_of_lt il)
    have ok2 := okT.drop i ok
    rw [drop_cons hg] at ok2 ih
    rw [lvF_succ] at h
    obtain ⟨u, hu, e⟩ := List.mem_flatMap.mp (mem_dst.mp h)
    have := chl_sub ok2 (ih u hu)
    simp only [List.mem_cons, List.not_mem_nil, or_false] at e
    rcases e with e | e
    · rw [e]; exact this.1
    · rw [e]; exact this.2
theorem lvF_nd {F : List BT} (hF : F.Nodup) : ∀ i, (lvF i F).Nodup
  | 0 => hF
  | i + 1 => by rw [lvF_succ]; exact dst_nd
theorem nd_len {κ : Type} [DecidableEq κ] : ∀ {xs ys : List κ}, xs.Nodup → (∀ x ∈ xs, x ∈ ys) → xs.length ≤ ys.length
  | [], _, _, _ => Nat.zero_le _
  | x :: xs, ys, nd, h => by
    have hx := h x List.mem_cons_self
    have nd' := List.nodup_cons.mp nd
    have := nd_len (xs := xs) (ys := ys.erase x) nd'.2 fun y hy => (List.mem_erase_of_ne (fun e => nd'.1 (by rw [← e]; exact hy))).mpr (h y (List.mem_cons_of_mem _ hy))
    rw [List.length_erase_of_mem hx] at this
    have : 0 < ys.length := List.length_pos_of_mem hx
    rw [List.length_cons]; omega
theorem wid_drop_le {ls : Lvs} {es : Ends3} {M : Nat} (h1 : ∀ ps ∈ ls, ps.length ≤ M) (h2 : es.length ≤ M) (i : Nat) : wid (ls.drop i) es ≤ M := by
  cases e : ls.drop i with
  | nil => exact h2
  | cons ps l => exact h1 ps (List.mem_of_mem_drop (i := i) (by rw [e]; exact List.mem_cons_self))
theorem lvF_len {ls : Lvs} {es : Ends3} {M : Nat} (ok : okT ls es) (h1 : ∀ ps ∈ ls, ps.length ≤ M) (h2 : es.length ≤ M) {F : List BT} (hF : ∀ t ∈ F, t ∈ trees ls es) (nF : F.Nodup) (i : Nat) (hi : i ≤ ls.length) : (lvF i F).length ≤ M := by
  have h := nd_len (lvF_nd nF i) (lvF_sub ok hF i hi)
  rw [trees_len] at h
  exact Nat.le_trans h (wid_drop_le h1 h2 i)
theorem cls_last : ∀ (ls : Lvs) (es : Ends3), ∃ t, cls ls es = t ++ [num (trees [] es)]
  | [], _ => ⟨[], rfl⟩
  | ps :: ls, es => by
    obtain ⟨t, h⟩ := cls_last ls es
    exact ⟨num (trees (ps :: ls) es) :: t, by show _ :: cls ls es = _; rw [h]; rfl⟩
end S
namespace S
open PySem PySem.Spec PyProof.Rows L2
def t_numbered_once_b1 (K : Frag) (E : XK) : TS :=
    tDrop (dML K mApp (dVar 2) (tCons (dSetd (dVar 1) (dVar 3) (tCB cLenD (tCons (dVar 1) (tNil)))) (tNil)))
def t_numbered_once_3 (K : Frag) (E : XK) : TS :=
    tRet (dVar 2)
def t_numbered_once_2 (K : Frag) (E : XK) : TS :=
    tSeq (dFor (iSeq K (dVar 0)) (gName 3) (t_numbered_once_b1 K E))
    (stop (t_numbered_once_3 K E))
def t_numbered_once_1 (K : Frag) (E : XK) : TS :=
    tSeq (tAsg (dLst (tNil)) (gName 2))
    (stop (t_numbered_once_2 K E))
def t_numbered_once (K : Frag) (E : XK) : TS :=
    tSeq (tAsg (dNewAny) (gName 1))
    (stop (t_numbered_once_1 K E))
end S
-- fn: numbered_once
-- law: k49
-- dX: seen
-- deps: Lay
namespace S
open PySem PySem.Spec PyProof.Rows L2
/-- keys and their numbers -/
def kvF {κ : Type} : Nat → List κ → List (κ × V)
  | _, [] => []
  | n, k :: l => (k, .int (n : Int)) :: kvF (n + 1) l
section
variable {κ : Type} [DecidableEq κ]
theorem kvF_len : ∀ (n : Nat) (l : List κ), (kvF n l).length = l.length
  | _, [] => rfl
  | n, _ :: l => by show (_ :: kvF (n + 1) l).length = _; rw [List.length_cons, kvF_len]; rfl
theorem kvF_mapK {γ : Type} (f : κ → γ) : ∀ (n : Nat) (l : List κ), ((kvF n l).map fun p => f p.1) = l.map f
  | _, [] => rfl
  | n, k :: l => by show f k :: (kvF (n + 1) l).map _ = _; rw [kvF_mapK]; rfl
theorem kvF_snoc (k : κ) : ∀ (n : Nat) (l : List κ), kvF n (l ++ [k]) = kvF n l ++ [(k, .int ((n + l.length : Nat) : Int))]
  | _, [] => rfl
  | n, j :: l => by
    show (j, _) :: kvF (n + 1) (l ++ [k]) = ((j, _) :: kvF (n + 1) l) ++ _
    rw [kvF_snoc k (n + 1) l, List.cons_append, List.length_cons, show n + 1 + l.length = n + (l.length + 1) from by omega]
theorem kvF_val (k : κ) (n : Nat) (l : List κ) : valV (kvF n l) k = if k ∈ l then some (.int ((n + ixF l k : Nat) : Int)) else none := by
  induction l generalizing n with
  | nil => rfl
  | cons j l ih =>
    show valV ((j, _) :: kvF (n + 1) l) k = _
    rw [ixF_cons]
    by_cases e : j = k
    · subst e
      rw [valV_pos rfl, if_pos List.mem_cons_self, if_pos rfl]; rfl
    · rw [valV_neg e, ih, if_neg e]
      by_cases h : k ∈ l
      · rw [if_pos h, if_pos (List.mem_cons_of_mem _ h), show n + 1 + ixF l k = n + (ixF l k + 1) from by omega]
      · rw [if_neg h, if_neg fun z => (List.mem_cons.mp z).elim (fun z => e z.symm) h]
/-- a setdefault with the number of keys: what comes back, what the dict holds behind it -/
theorem kvF_set {l : List κ} {k : κ} : (k ∈ l → valV (kvF 0 l) k = some (.int (ixF (addD l k) k : Nat)) ∧ addD l k = l) ∧ (k ∉ l → valV (kvF 0 l) k = none ∧ putK (kvF 0 l) k (.int (l.length : Nat)) = kvF 0 (addD l k) ∧ ixF (addD l k) k = l.length) := by
  refine ⟨fun h => ?_, fun h => ?_⟩
  · have e : addD l k = l := if_pos h
    rw [e, kvF_val, if_pos h, Nat.zero_add]
    exact ⟨rfl, rfl⟩
  · have e : addD l k = l ++ [k] := if_neg h
    have hn : valV (kvF 0 l) k = none := by rw [kvF_val, if_neg h]
    rw [e, putK_new _ hn, kvF_snoc, Nat.zero_add, ixF_new h]
    exact ⟨hn, rfl, rfl⟩
end
def intsN (l : List Nat) : List V := l.map fun n : Nat => V.int (n : Int)
theorem intsN_get {l : List Nat} {i n : Nat} (h : l[i]? = some n) : (intsN l)[i]? = some (.int (n : Int)) := by unfold intsN; rw [List.getElem?_map, h]; rfl
/-- keys on the heap -/
inductive KyO (K : Frag) (H : Hp) (p : Addr) : List Nat → Prop where
  | B (es : Ends3) (h : SqA K H p (es.map obV)) : KyO K H p (num es)
  | T (ks : List (Nat × Nat)) (bs : List Addr) (h : SqA K H p (bs.map V.ref)) (hb : Paired (fun (b : Addr) (k : Nat × Nat) => H b = some (.tup [.int (k.1 : Int), .int (k.2 : Int)])) bs ks) : KyO K H p (num ks)
def sp_numbered_once (K : Frag) : Sp := fun vs H Q _ => ∃ (p : Addr) (ns : List Nat), vs = [.ref p] ∧ KyO K H p ns ∧ ns.length ≤ 1000000 ∧ ∀ q H', Same H H' → H q = none → H' q = some (.lst (intsN ns)) → Q (.ref q) H'
section
variable {K : Frag} {E : XK} {Q : VK} {κ : Type} [DecidableEq κ]
theorem no_1 {H H1 : Hp} {p d : Addr} {k2 k3 : Option V} {ks : List κ} {ys : List V} {D : Addr → List (κ × V) → HO} (e1 : Same H H1) (nd : H d = none) (hd : H1 d = some (D d [])) (hp : SqA K H p ys) (hl : ys.length = ks.length) (lk : ks.length ≤ 1000000)
    (isd : ∀ {H' : Hp} {kvs : List (κ × V)}, H' d = some (D d kvs) → IsDX H' d) (ln : ∀ {H' : Hp} {kvs : List (κ × V)}, H' d = some (D d kvs) → LenD H' d kvs.length) (dl : ∀ kvs xs, D d kvs ≠ .lst xs)
    (stp : ∀ {i : Nat} {k : κ} {y z : V} {H' : Hp} {kvs : List (κ × V)}, ks[i]? = some k → ys[i]? = some y → Same H H' → H' d = some (D d kvs) → kvs.length < sizeLine → SdR H' d y z (valV kvs k) (L2.upd H' d (D d (putK kvs k z))))
    (q : ∀ q H', Same H H' → H q = none → H' q = some (.lst (intsN (num ks))) → Q (.ref q) H') :
    t_numbered_once_1 K E { nx := fun _ H' => Q .non H', rt := Q } [some (.ref p), some (.ref d), k2, k3] H1 := by
  walk_at "gx"
  refine ⟨fun q0 nq => ?_⟩
  walk_at "gx"
  have hd2 := up_of (ne_of_none hd nq) hd (o := .lst [])
  have e2 := e1.trans (same_new (o := .lst []) nq)
  have nq0 : H q0 = none := nn_of e1 nq
  refine for_seq0 (K := K) (H0 := H) (fun i σ H' => (∃ a, σ = [some (.ref p), some (.ref d), some (.ref q0), a]) ∧ Same H H' ∧ H' d = some (D d (kvF 0 (dst (ks.take i)))) ∧ H' q0 = some (.lst (intsN ((ks.take i).map (ixF (dst ks)))))) hp e2 ?_ (fun i σ H' z => z.2.1) ?_ ?_
  · exact ⟨⟨_, rfl⟩, e2, hd2, upd_same⟩
  · rintro i y σ H3 hi ⟨⟨a, rfl⟩, e3, hd3, hq3⟩
    have il : i < ks.length := by rw [← hl]; exact (List.getElem?_eq_some_iff.mp hi).1
    have hk : ks[i]? = some ks[i] := List.getElem?_eq_getElem il
    generalize ks[i] = k at hk
    have tk : ks.take (i + 1) = ks.take i ++ [k] := by rw [List.take_add_one, hk]; rfl
    have l1 := dst_len (ks.take i)
    have l2 : (ks.take i).length ≤ ks.length := by rw [List.length_take]; omega
    have ek : ixF (addD (dst (ks.take i)) k) k = ixF (dst ks) k := by
      rw [← dst_snoc, ← tk]
      have := ix_dst_app (l := ks.take (i + 1)) (m := ks.drop (i + 1)) (k := k) (by rw [tk]; simp)
      rw [List.take_append_drop] at this
      exact this.symm
    walk_at "gx"
    refine (⟨isd hd3, ?_⟩ : DxC H3 d _)
    refine (⟨⟨_, ln hd3, ?_⟩⟩ : LnD H3 d _)
    have lsz : (kvF 0 (dst (ks.take i))).length < sizeLine := by rw [kvF_len, sizeLine_eq]; omega
    rw [kvF_len]
    have nl : intsN ((ks.take (i + 1)).map (ixF (dst ks))) = intsN ((ks.take i).map (ixF (dst ks))) ++ [.int (ixF (dst ks) k : Nat)] := by rw [tk, List.map_append]; unfold intsN; rw [List.map_append]; rfl
    refine ⟨⟨_, _, stp hk hi e3 hd3 lsz, fun v hv => ?_, fun hn => ?_⟩⟩
    · have hm : k ∈ dst (ks.take i) := by
        rcases Classical.em (k ∈ dst (ks.take i)) with h | h
        · exact h
        · rw [(kvF_set.2 h).1] at hv; cases hv
      obtain ⟨g1, g2⟩ := kvF_set.1 hm
      rw [g1] at hv
      cases hv
      walk_at "gx"
      refine Need.mk (by unfold intsN; rw [List.length_map, List.length_map, sizeLine_eq]; omega) ?_
      refine ⟨⟨_, rfl⟩, Same.mut e3 nq0, ?_, ?_⟩
      · rw [tk, dst_snoc, g2]
        exact up_of (fun z => by rw [← z] at hq3; rw [hd3] at hq3; exact dl _ _ (Option.some.inj hq3)) hd3
      · rw [nl, ek]; exact upd_same
    · have hm : k ∉ dst (ks.take i) := fun h => by rw [(kvF_set.1 h).1] at hn; cases hn
      obtain ⟨g1, g2, g3⟩ := kvF_set.2 hm
      rw [g2]
      have dq : q0 ≠ d := fun z => by rw [z] at hq3; rw [hd3] at hq3; exact dl _ _ (Option.some.inj hq3)
      have hq4 := up_of (o := D d (kvF 0 (addD (dst (ks.take i)) k))) dq hq3
      walk_at "gx"
      refine Need.mk (by unfold intsN; rw [List.length_map, List.length_map, sizeLine_eq]; omega) ?_
      refine ⟨⟨_, rfl⟩, Same.mut (Same.mut e3 nd) nq0, ?_, ?_⟩
      · rw [tk, dst_snoc]
        exact up_of dq.symm upd_same
      · rw [nl, ← ek, g3]; exact upd_same
  · rintro σ H3 ⟨⟨a, rfl⟩, e3, hd3, hq3⟩
    walk_at "gx"
    refine q q0 H3 e3 nq0 ?_
    rw [hl, List.take_length] at hq3
    exact hq3
end
theorem pairs_get {K : Frag} {α β : Type} {R : α → β → Prop} : ∀ {as : List α} {bs : List β} {i : Nat} {b : β}, Paired R as bs → bs[i]? = some b → ∃ a, as[i]? = some a ∧ R a b
  | _, _, _, _, .nil, h => by simp at h
  | _, _, 0, _, .cons r _, h => by simp at h; subst h; exact ⟨_, rfl, r⟩
  | _, _, i + 1, _, .cons _ t, h => by
    rw [List.getElem?_cons_succ] at h
    obtain ⟨a, h1, h2⟩ := pairs_get (K := K) t h
    exact ⟨a, by rw [List.getElem?_cons_succ]; exact h1, h2⟩
def keyP (p : Nat × Nat) : List Key := [.inl (p.1 : Int), .inl (p.2 : Int)]
theorem keyP_inj {a b : Nat × Nat} (h : keyP a = keyP b) : a = b := by
  injection h with h1 h2
  injection h2 with h2 _
  injection h1 with h1
  injection h2 with h2
  exact Prod.ext (by exact_mod_cast h1) (by exact_mod_cast h2)
theorem pure_numbered_once {K : Frag} (vs : List V) (H : Hp) (Q : VK) (E : XK) (h : sp_numbered_once K vs H Q E) : t_numbered_once K E { nx := fun _ H' => Q .non H', rt := Q } (start ["keys", "seen", "numbers", "key"] vs) H := by
  obtain ⟨p, ns, rfl, hk, ln, k⟩ := h
  walk_at "gx"
  cases hk with
  | B es hp =>
    refine .B fun d nd => ?_
    walk_at "go"
    refine ⟨no_1 (D := fun a kvs => DkO kB a kvs) (same_new nd) nd upd_same hp (by rw [List.length_map]) (by rw [num_len] at ln; exact ln) (fun e => .B _ e) (fun e => .B e) (fun _ _ z => nomatch z) (fun {i k y z H' kvs} h1 h2 e hd l => ?_) k⟩
    rw [List.getElem?_map, h1] at h2
    cases h2
    exact .B hd rfl l
  | T ks bs hp hb =>
    refine .T fun d nd => ?_
    walk_at "go"
    refine ⟨no_1 (ks := ks.map keyP) (D := fun _ kvs => .dT kvs) (same_new nd) nd upd_same hp (by rw [List.length_map, List.length_map, hb.length]) (by rw [num_len] at ln; rw [List.length_map]; exact ln) (fun e => .T _ e) (fun e => .T e) (fun _ _ z => nomatch z) (fun {i k y z H' kvs} h1 h2 e hd l => ?_) fun q H' e nq hq => k q H' e nq ?_⟩
    · rw [List.getElem?_map] at h1
      obtain ⟨x, hx, rfl⟩ := Option.map_eq_some_iff.mp h1
      obtain ⟨b, g1, g2⟩ := pairs_get (K := K) hb hx
      rw [List.getElem?_map, g1] at h2
      cases h2
      exact .T hd rfl (e _ _ g2) l
    · rw [num_map fun x _ y _ => keyP_inj] at hq
      exact hq
end S
-- deps: D0 D1
/-! ## a bitmap on the heap -/
namespace S
open PySem PySem.Spec PyProof.Rows L2
theorem Same.slt {H H' : Hp} {a C dx : Addr} {vs : List (Option V)} (e : Same H H') (h : SlX.Slt H a C dx vs) : SlX.Slt H' a C dx vs := by
  rcases h with ⟨h, z⟩ | ⟨h, z⟩
  · exact .inl ⟨e _ _ h, z⟩
  · exact .inr ⟨e _ _ h, e _ _ z⟩
theorem slO_lst {a C dx : Addr} {vs : List (Option V)} {xs : List V} : SlX.SlO a C dx vs ≠ .lst xs := fun z => by unfold SlX.SlO at z; cases z
theorem slO_tup {a C dx : Addr} {vs : List (Option V)} {xs : List V} : SlX.SlO a C dx vs ≠ .tup xs := fun z => by unfold SlX.SlO at z; cases z
theorem slO_frz {a C dx : Addr} {vs : List (Option V)} {o : Obj} {u : HO} : SlX.SlO a C dx vs ≠ .frz o u := fun z => by unfold SlX.SlO at z; cases z
theorem SameX.slt {st : Addr} {H H' : Hp} {a C dx : Addr} {vs : List (Option V)} {l : List V} (e : SameX st H H') (hst : H st = some (.lst l)) (h : SlX.Slt H a C dx vs) : SlX.Slt H' a C dx vs := by
  rcases h with ⟨h, z⟩ | ⟨h, z⟩
  · exact .inl ⟨e _ _ h (ne_of h hst (fun y => by cases y)), z⟩
  · exact .inr ⟨e _ _ h (ne_of h hst slO_lst), e _ _ z (ne_of z hst (fun y => by cases y))⟩
/-- all but two objects stays -/
def SameO (x y : Addr) (H H' : Hp) : Prop := ∀ b o, H b = some o → b ≠ x → b ≠ y → H' b = some o
theorem Same.o {x y : Addr} {H H' : Hp} (e : Same H H') : SameO x y H H' := fun b o h _ _ => e b o h
theorem SameO.trans {x y : Addr} {H H1 H2 : Hp} (a : SameO x y H H1) (b : SameO x y H1 H2) : SameO x y H H2 := fun c o h n m => b c o (a c o h n m) n m
theorem SameO.tup {K : Frag} {x y a C : Addr} {H H' : Hp} {xs : List V} {vs : List (Option V)} (e : SameO x y H H') (hx : SlX.Slt H x C y vs) (hy : ∀ o, H y = some o → (∀ ys, o ≠ .tup ys) ∧ ∀ u w, o ≠ .frz u w) (h : SqT K H a xs) : SqT K H' a xs := by
  have nx : ∀ o, H a = some o → (o = .tup xs ∨ ∃ u, o = .frz u (.tup xs)) → a ≠ x ∧ a ≠ y := fun o ho q => by
    refine ⟨fun z => ?_, fun z => ?_⟩
    · subst z
      rcases hx with ⟨h1, _⟩ | ⟨h1, _⟩
      · rw [ho] at h1
        rcases q with q | ⟨u, q⟩ <;> · rw [q] at h1; cases h1
      · rw [ho] at h1
        have h2 := Option.some.inj h1
        rcases q with q | ⟨u, q⟩
        · exact slO_tup (h2.symm.trans q)
        · exact slO_frz (h2.symm.trans q)
    · subst z
      rcases q with q | ⟨u, q⟩
      · exact (hy _ ho).1 _ q
      · exact (hy _ ho).2 _ _ q
  rcases h with (h | ⟨o, h⟩) | h
  · obtain ⟨n, m⟩ := nx _ h (.inl rfl)
    exact .inl (.inl (e _ _ h n m))
  · obtain ⟨n, m⟩ := nx _ h (.inr ⟨_, rfl⟩)
    exact .inl (.inr ⟨o, e _ _ h n m⟩)
  · exact .inr h
abbrev BmF (K : Frag) : Prop := CF K "Bitmap" ["ends", "size"]
/-- a bitmap: its size, its ends -/
def Bm (K : Frag) (H : Hp) (a : Addr) (n : Int) (es : List Int) : Prop := BmF K ∧ 0 ≤ n ∧ Ends n es ∧ ∃ dx p, SlX.Slt H a (He.ga K "Bitmap") dx [some (.ref p), some (.int n)] ∧ SqT K H p (es.map V.int)
theorem Bm.same {K : Frag} {H H' : Hp} {a : Addr} {n : Int} {es : List Int} (h : Bm K H a n es) (e : Same H H') : Bm K H' a n es := by
  obtain ⟨c, h0, hE, dx, p, h1, h2⟩ := h
  exact ⟨c, h0, hE, dx, p, Same.slt e h1, Same.tup e h2⟩
theorem Bm.x {K : Frag} {st : Addr} {H H' : Hp} {a : Addr} {n : Int} {es : List Int} {l : List V} (h : Bm K H a n es) (e : SameX st H H') (hst : H st = some (.lst l)) : Bm K H' a n es := by
  obtain ⟨c, h0, hE, dx, p, h1, h2⟩ := h
  exact ⟨c, h0, hE, dx, p, e.slt hst h1, e.tup h2 hst⟩
end S
namespace S
open PySem PySem.Spec PyProof.Rows L2
end S
-- fn: _law_in
-- law: k03
-- deps: D0
namespace S
open PySem PySem.Spec PyProof.Rows L2
/-- an odd number of the ends is at most the row -/
def inB (ends : List Int) (row : Int) : Bool := ends.foldl (fun b e => if e ≤ row then !b else b) false
end S
namespace S
open PySem PySem.Spec PyProof.Rows L2
end S
-- fn: Bitmap.__init__
-- law: k01
-- deps: Bm _law_in
namespace S
open PySem PySem.Spec PyProof.Rows L2
end S
namespace S
open PySem PySem.Spec PyProof.Rows L2
end S
-- fn: next_end
-- law: k02
-- deps: D0
namespace S
open PySem PySem.Spec PyProof.Rows L2
end S
namespace S
open PySem PySem.Spec PyProof.Rows L2
end S
-- fn: swept
-- law: k02
-- deps: D0 next_end _law_in
namespace S
open PySem PySem.Spec PyProof.Rows L2
/-- one step of the sweep: at, the bits behind, the bit so far; the ends and the bit -/
def sweepAt (r : Bool → Bool → Bool) (at_ : Int) (f s b : Bool) (rest : List Int) : List Int := if r f s = b then rest else at_ :: rest
def sweep (r : Bool → Bool → Bool) : List Int → List Int → Bool → Bool → List Int
  | [], [], _, _ => []
  | x :: xs, [], f, s => sweepAt r x (!f) s (r f s) (sweep r xs [] (!f) s)
  | [], y :: ys, f, s => sweepAt r y f (!s) (r f s) (sweep r [] ys f (!s))
  | x :: xs, y :: ys, f, s =>
    if x < y then sweepAt r x (!f) s (r f s) (sweep r xs (y :: ys) (!f) s)
    else if x = y then sweepAt r x (!f) (!s) (r f s) (sweep r xs ys (!f) (!s))
    else sweepAt r y f (!s) (r f s) (sweep r (x :: xs) ys f (!s))
  termination_by xs ys => xs.length + ys.length
/-! ### the law of the sweep -/
end S
namespace S
open PySem PySem.Spec PyProof.Rows L2
end S
-- fn: turned
-- law: k03
-- deps: D0
namespace S
open PySem PySem.Spec PyProof.Rows L2
end S
-- deps: D0 D1 turned _law_in
namespace S
open PySem PySem.Spec PyProof.Rows L2
end S
-- deps: Bm
namespace S
open PySem PySem.Spec PyProof.Rows L2
theorem isi_bm {K : Frag} {H : Hp} {a : Addr} {n : Int} {es : List Int} {k : Bool → Prop} (h : Bm K H a n es) (q : k true) : Isi K H (.ref a) (.ref (He.ga K "Bitmap")) k := by
  obtain ⟨c, _, _, dx, p, hs, _⟩ := h
  exact ⟨.inr ⟨a, _, dx, _, true, rfl, hs, c.sc, c.si, by rw [mf_kit c.mf c.mf]; rfl, q⟩⟩
end S
namespace S
open PySem PySem.Spec PyProof.Rows L2
end S
-- fn: Bitmap.paired
-- law: k05
-- deps: Bm Bitmap_init swept turned turned_law isi_bm
namespace S
open PySem PySem.Spec PyProof.Rows L2
end S
namespace S
open PySem PySem.Spec PyProof.Rows L2
end S
namespace S
open PySem PySem.Spec PyProof.Rows L2
end S
namespace S
open PySem PySem.Spec PyProof.Rows L2
end S
namespace S
open PySem PySem.Spec PyProof.Rows L2
end S
namespace S
open PySem PySem.Spec PyProof.Rows L2
end S
namespace S
open PySem PySem.Spec PyProof.Rows L2
end S
namespace S
open PySem PySem.Spec PyProof.Rows L2
end S
-- fn: Bitmap.__and__ Bitmap.__or__ Bitmap.__xor__ Bitmap.__sub__ Bitmap.__invert__ Bitmap.__eq__ Bitmap.__bool__
-- law: k05
-- deps: Bm Bitmap_init swept turned turned_law isi_bm Bitmap_paired
namespace S
open PySem PySem.Spec PyProof.Rows L2
/-- what stands behind ==: a bitmap, or something that is none -/
def BmV (K : Frag) (H : Hp) (y : V) (m : Int) (fs : List Int) : Prop := (∃ b, y = .ref b ∧ Bm K H b m fs) ∨ (m = -1 ∧ ∀ k : Bool → Prop, k false → MF K "Bitmap" [] ["object"] → Isi K H y (.ref (He.ga K "Bitmap")) k)
instance {K : Frag} {H : Hp} {b : Addr} {m : Int} {fs : List Int} : Coe (Bm K H b m fs) (BmV K H (.ref b) m fs) := ⟨fun h => .inl ⟨b, rfl, h⟩⟩
instance : Coe Addr V := ⟨V.ref⟩
end S
namespace S
open PySem PySem.Spec PyProof.Rows L2
end S
-- fn: _law_one_sided
-- law: k10
-- deps: D0 D1 _law_in Bitmap_ops
namespace S
open PySem PySem.Spec PyProof.Rows L2
end S
-- deps: Bm Bitmap_ops _law_in _law_one_sided
/-! ## slices: numbers of bits, place 0 first, the sign last -/
namespace S
open PySem PySem.Spec PyProof.Rows L2
/-! ### the law's sum over the places -/
/-! ### lists of bitmaps, of lists -/
theorem atI_last {xs : List V} {y : V} : atI (xs ++ [y]) (-1) = some y := by
  unfold atI ixN
  rw [if_neg (by decide), if_pos (by simp; omega), Option.bind_some]
  have e : (-1 + ((xs ++ [y]).length : Int)).toNat = xs.length := by simp; omega
  rw [e]; simp
end S
-- deps: Bm Sl
/-! ## comprehensions that make objects -/
namespace S
open PySem PySem.Spec PyProof.Rows L2
theorem SameI.slt {H H' : Hp} {a C dx : Addr} {vs : List (Option V)} (e : SameI H H') (h : SlX.Slt H a C dx vs) : SlX.Slt H' a C dx vs := by
  rcases h with ⟨h, z⟩ | ⟨h, z⟩
  · exact .inl ⟨e _ _ h (fun _ z => by cases z), z⟩
  · exact .inr ⟨e _ _ h fun _ => slO_lst, e _ _ z (fun _ z => by cases z)⟩
theorem Bm.i {K : Frag} {H H' : Hp} {a : Addr} {n : Int} {es : List Int} (h : Bm K H a n es) (e : SameI H H') : Bm K H' a n es := by
  obtain ⟨c, h0, hE, dx, p, h1, h2⟩ := h
  exact ⟨c, h0, hE, dx, p, e.slt h1, e.tup h2⟩
/-- [e for x in xs]: of data known ahead, the elements told by a relation that the growing list does not touch -/
theorem lc_dat {α : Type} {K : Frag} {p : Addr} {i : Nat} {te : TE} {vs : List Nat} {σ : L2.St} {H1 : Hp} {Q : VK} (as : List α) (f : α → V) (R : Addr → α → V → Hp → Prop) (hx : SqA K H1 p (as.map f)) (hz : as.length < sizeLine)
    (mono : ∀ D a y H H' l, H D = some (.lst l) → R D a y H → SameX D H H' → R D a y H')
    (hs : ∀ (D : Addr) (l : List V) (j : Nat) (a : α) (H : Hp) (A : V → Hp → Prop), H1 D = none → H D = some (.lst l) → as[j]? = some a → Same H1 H → (∀ y H', Same H H' → R D a y H' → A y H') → wipe ((wipe σ vs).set i (some (f a))) vs = wipe σ vs ∧ te ((wipe σ vs).set i (some (f a))) H A)
    (hd : ∀ D ys H', H1 D = none → H' D = some (.lst ys) → Paired (fun a y => R D a y H') as ys → Same H1 H' → Q (.ref D) H') :
    Walk K H1 p (Wr (LcGo (gName i) tYes te vs σ Q)) := by
  refine lc_seq hx fun D hD => ⟨fun j H => ∃ ys, H D = some (.lst ys) ∧ Paired (fun a y => R D a y H) (as.take j) ys ∧ Same H1 H, ⟨[], upd_same, .nil, same_new hD⟩, fun i H _ ⟨_, _, _, e⟩ ys => ⟨e.seq, Same.tup e⟩, ?_, fun H ⟨ys, h1, h2, e⟩ => hd D ys H hD h1 (by rw [List.length_map, List.take_length] at h2; exact h2) e⟩
  rintro j x H hi ⟨ys, h1, h2, e⟩
  rw [List.getElem?_map] at hi
  cases hj : as[j]? with
  | none => rw [hj] at hi; cases hi
  | some a =>
    rw [hj] at hi
    cases hi
    have hil : j < as.length := (List.getElem?_eq_some_iff.mp hj).1
    have hlen : ys.length ≤ j := by
      rw [← h2.length, List.length_take]; exact Nat.min_le_left _ _
    obtain ⟨w, q⟩ := hs D ys j a H (fun y H4 => ∃ acc, H4 D = some (.lst acc) ∧ acc.length < sizeLine ∧ ∃ ys, upd H4 D (.lst (acc ++ [y])) D = some (.lst ys) ∧ Paired (fun a y' => R D a y' (upd H4 D (.lst (acc ++ [y])))) (as.take (j + 1)) ys ∧ Same H1 (upd H4 D (.lst (acc ++ [y])))) hD h1 hj e fun y H' e2 r => by
      have si : SameX D H' (L2.upd H' D (.lst (ys ++ [y]))) := SameX.upd
      refine ⟨ys, e2 _ _ h1, by omega, ys ++ [y], upd_same, ?_, fun b o hb => ?_⟩
      · rw [List.take_succ, hj]
        exact Paired.snoc (Paired.mapP h2 fun a b r => mono _ _ _ _ _ _ h1 r (Same.thenX e2 si)) (mono _ _ _ _ _ _ (e2 _ _ h1) r si)
      · rw [upd_ne (ne_of_none hb hD)]
        exact e2 _ _ (e _ _ hb)
    refine ⟨w, ?_⟩
    unfold tYes
    dsimp only
    rw [if_pos rfl]
    exact q
end S
-- deps: Lc D0 D1
/-! ## comprehensions of any kind over a sequence whose items are told by a relation -/
namespace S
open PySem PySem.Spec PyProof.Rows L2
theorem lcg_at {α β : Type} {R : α → β → Prop} : ∀ {as : List α} {bs : List β} {i : Nat} {b : β}, Paired R as bs → bs[i]? = some b → ∃ a, as[i]? = some a ∧ R a b
  | _, _, _, _, .nil, h => by simp at h
  | _, _, 0, _, .cons r _, h => by simp at h; subst h; exact ⟨_, rfl, r⟩
  | _, _, i + 1, _, .cons _ t, h => by
    rw [List.getElem?_cons_succ] at h
    obtain ⟨a, h1, h2⟩ := lcg_at t h
    exact ⟨a, by rw [List.getElem?_cons_succ]; exact h1, h2⟩
theorem lcg_to {α β : Type} {R : α → β → Prop} : ∀ {as : List α} {bs : List β} {i : Nat} {a : α}, Paired R as bs → as[i]? = some a → ∃ b, bs[i]? = some b ∧ R a b
  | _, _, _, _, .nil, h => by simp at h
  | _, _, 0, _, .cons r _, h => by simp at h; subst h; exact ⟨_, rfl, r⟩
  | _, _, i + 1, _, .cons _ t, h => by
    rw [List.getElem?_cons_succ] at h
    obtain ⟨a, h1, h2⟩ := lcg_to t h
    exact ⟨a, by rw [List.getElem?_cons_succ]; exact h1, h2⟩
theorem tkg_filter {α : Type} {cs : List α} {pr : α → Bool} {i : Nat} {c : α} (hc : cs[i]? = some c) : (cs.take (i + 1)).filter pr = (cs.take i).filter pr ++ (if pr c = true then [c] else []) := by
  rw [List.take_succ, hc, List.filter_append]
  congr 1
  show [c].filter pr = _
  by_cases e : pr c = true <;> simp [e]
theorem lc_gen {α : Type} {K : Frag} {p : Addr} {xs : List V} {g : TG} {tt : TT} {te : TE} {vs : List Nat} {σ : L2.St} {H1 : Hp} {Q : VK} (as : List α) (pr : α → Bool) (P : α → V → Prop) (R : Addr → α → V → Hp → Prop) (hx : SqA K H1 p xs) (hb : Paired P as xs) (hz : as.length < sizeLine)
    (mono : ∀ D a y H H' l, H D = some (.lst l) → R D a y H → SameX D H H' → R D a y H')
    (hs : ∀ (D : Addr) (l : List V) (a : α) (x : V) (H : Hp) (A : V → Hp → Prop) (B : Hp → Prop), H1 D = none → H D = some (.lst l) → a ∈ as → P a x → Same H1 H → (∀ y H', Same H H' → pr a = true → R D a y H' → A y H') → (∀ H', Same H H' → pr a = false → B H') →
      g x (wipe σ vs) H fun σ2 H2 => wipe σ2 vs = wipe σ vs ∧ tt σ2 H2 fun b H3 => if b = true then te σ2 H3 A else B H3)
    (hd : ∀ D ys H', H1 D = none → H' D = some (.lst ys) → Paired (fun a y => R D a y H') (as.filter pr) ys → Same H1 H' → Q (.ref D) H') :
    Walk K H1 p (Wr (LcGo g tt te vs σ Q)) := by
  have lz := hb.length
  refine lc_seq hx fun D hD => ⟨fun j H => ∃ ys, H D = some (.lst ys) ∧ Paired (fun a y => R D a y H) ((as.take j).filter pr) ys ∧ Same H1 H, ⟨[], upd_same, by rw [List.take_zero]; exact .nil, same_new hD⟩, fun i H _ ⟨_, _, _, e⟩ ys => ⟨e.seq, Same.tup e⟩, ?_, fun H ⟨ys, h1, h2, e⟩ => hd D ys H hD h1 (by rw [← lz, List.take_length] at h2; exact h2) e⟩
  rintro j x H hi ⟨ys, h1, h2, e⟩
  obtain ⟨a, hj, hP⟩ := lcg_at hb hi
  have hil : j < as.length := (List.getElem?_eq_some_iff.mp hj).1
  have hlen : ys.length ≤ j := by
    rw [← h2.length]
    exact Nat.le_trans (List.length_filter_le _ _) (by rw [List.length_take]; exact Nat.min_le_left _ _)
  refine hs D ys a x H _ _ hD h1 (List.mem_of_getElem? hj) hP e (fun y H' e2 hp r => ?_) fun H' e2 hp => ⟨ys, e2 _ _ h1, ?_, e.trans e2⟩
  · have si : SameX D H' (L2.upd H' D (.lst (ys ++ [y]))) := SameX.upd
    refine ⟨ys, e2 _ _ h1, by omega, ys ++ [y], upd_same, ?_, fun b o hb => ?_⟩
    · rw [tkg_filter hj, if_pos hp]
      exact Paired.snoc (Paired.mapP h2 fun a b r => mono _ _ _ _ _ _ h1 r (Same.thenX e2 si)) (mono _ _ _ _ _ _ (e2 _ _ h1) r si)
    · rw [upd_ne (ne_of_none hb hD)]
      exact e2 _ _ (e _ _ hb)
  · rw [tkg_filter hj, if_neg (by rw [hp]; exact Bool.false_ne_true), List.append_nil]
    exact Paired.mapP h2 fun a b r => mono _ _ _ _ _ _ h1 r (Same.x e2)
end S
-- deps: numbered_once Lcg
/-! ## tables on the heap -/
namespace S
open PySem PySem.Spec PyProof.Rows L2
def RowT (K : Frag) (H : Hp) (t : Addr) (p : Nat × Nat) : Prop := SqT K H t [.int (p.1 : Int), .int (p.2 : Int)]
/-- a level: a list or a tuple of pairs (u: a tuple) -/
def LvG (u : Bool) (K : Frag) (H : Hp) (a : Addr) (ps : List (Nat × Nat)) : Prop := ∃ ts : List Addr, (if u then SqT K H a (ts.map V.ref) else SqA K H a (ts.map V.ref)) ∧ Paired (RowT K H) ts ps
/-- a table's levels -/
def TbG (u : Bool) (K : Frag) (H : Hp) (p : Addr) (ls : Lvs) : Prop := ∃ xs : List Addr, (if u then SqT K H p (xs.map V.ref) else SqA K H p (xs.map V.ref)) ∧ Paired (LvG u K H) xs ls
section
variable {K : Frag} {H H' : Hp} {u : Bool}
theorem RowT.same {t : Addr} {p : Nat × Nat} (h : RowT K H t p) (e : Same H H') : RowT K H' t p := Same.tup e h
theorem LvG.same {a : Addr} {ps : List (Nat × Nat)} (h : LvG u K H a ps) (e : Same H H') : LvG u K H' a ps := by
  obtain ⟨ts, h1, h2⟩ := h
  refine ⟨ts, ?_, Paired.mapP h2 fun _ _ r => RowT.same r e⟩
  cases u
  · exact Same.sqa e h1
  · exact Same.tup e h1
theorem TbG.same {p : Addr} {ls : Lvs} (h : TbG u K H p ls) (e : Same H H') : TbG u K H' p ls := by
  obtain ⟨ts, h1, h2⟩ := h
  refine ⟨ts, ?_, Paired.mapP h2 fun _ _ r => LvG.same r e⟩
  cases u
  · exact Same.sqa e h1
  · exact Same.tup e h1
theorem LvG.a {a : Addr} {ps : List (Nat × Nat)} (h : LvG u K H a ps) : LvG false K H a ps := by
  cases u
  · exact h
  · obtain ⟨ts, h1, h2⟩ := h; exact ⟨ts, .inr h1, h2⟩
theorem TbG.a {p : Addr} {ls : Lvs} (h : TbG u K H p ls) : TbG false K H p ls := by
  obtain ⟨ts, h1, h2⟩ := h
  refine ⟨ts, ?_, Paired.mapP h2 fun _ _ r => LvG.a r⟩
  cases u
  · exact h1
  · exact .inr h1
end
/-- classes on the heap -/
def ClsO (H : Hp) (c : Addr) (ns : List Nat) : Prop := H c = some (.lst (intsN ns))
theorem intsN_len (l : List Nat) : (intsN l).length = l.length := by unfold intsN; rw [List.length_map]
theorem refs_of {α : Type} {P : α → Addr → Prop} : ∀ {as : List α} {ys : List V}, Paired (fun a y => ∃ b, y = V.ref b ∧ P a b) as ys → ∃ bs : List Addr, ys = bs.map V.ref ∧ Paired (fun b a => P a b) bs as
  | _, _, .nil => ⟨[], rfl, .nil⟩
  | _, _, .cons ⟨b, e, r⟩ t => by
    obtain ⟨bs, e2, h⟩ := refs_of t
    exact ⟨b :: bs, by rw [e, e2]; rfl, .cons r h⟩
theorem to_refs {α : Type} {P : Addr → α → Prop} : ∀ {bs : List Addr} {as : List α}, Paired P bs as → Paired (fun a y => ∃ b, y = V.ref b ∧ P b a) as (bs.map V.ref)
  | _, _, .nil => .nil
  | _, _, .cons r t => .cons ⟨_, rfl, r⟩ (to_refs t)
theorem paired_fR {α β γ : Type} {R : α → γ → Prop} (f : β → γ) : ∀ {as : List α} {bs : List β}, Paired (fun a b => R a (f b)) as bs → Paired R as (bs.map f)
  | _, _, .nil => .nil
  | _, _, .cons r t => .cons r (paired_fR f t)
theorem paired_last {α β : Type} {R : α → β → Prop} : ∀ {as : List α} {bs : List β} {b : β}, Paired R as (bs ++ [b]) → ∃ as' a, as = as' ++ [a] ∧ Paired R as' bs ∧ R a b
  | _, [], _, h => by
    cases h with
    | cons r t => cases t; exact ⟨[], _, rfl, .nil, r⟩
  | _, _ :: bs, _, h => by
    cases h with
    | cons r t =>
      obtain ⟨as', a, e, h1, h2⟩ := paired_last t
      exact ⟨_ :: as', a, by rw [e]; rfl, .cons r h1, h2⟩
theorem paired_mem {α β : Type} {R S : α → β → Prop} : ∀ {as : List α} {bs : List β}, Paired R as bs → (∀ a b, a ∈ as → R a b → S a b) → Paired S as bs
  | _, _, .nil, _ => .nil
  | _, _, .cons r t, h => .cons (h _ _ List.mem_cons_self r) (paired_mem t fun a b m => h a b (List.mem_cons_of_mem _ m))
theorem paired_rev {α β : Type} {R : α → β → Prop} : ∀ {as : List α} {bs : List β}, Paired R as bs → Paired R as.reverse bs.reverse
  | _, _, .nil => .nil
  | _, _, .cons r t => by rw [List.reverse_cons, List.reverse_cons]; exact Paired.snoc (paired_rev t) r
theorem cls_head (ls : Lvs) (es : Ends3) : ∃ t, cls ls es = num (trees ls es) :: t := by cases ls <;> exact ⟨_, rfl⟩
/-- sizes that fit -/
def smT (ls : Lvs) (es : Ends3) : Prop := ls.length ≤ 10000 ∧ (∀ ps ∈ ls, ps.length ≤ 1000000) ∧ es.length ≤ 1000000
end S
namespace S
open PySem PySem.Spec PyProof.Rows L2
def t_class_levels_b1_1 (K : Frag) (E : XK) : TS :=
    tDrop (dML K mApp (dVar 2) (tCons (dCall (sp_numbered_once K) (EW E) (tCons (dLc (iSeq K (dVar 3)) (gTup K 2 (gCons (gName 5) (gCons (gName 6) (gNil)))) (tYes) (dTupK (tCons (tOp (oIx K) (dVar 4) (dVar 5)) (tCons (tOp (oIx K) (dVar 4) (dVar 6)) (tNil)))) [5, 6]) (tNil))) (tNil)))
def t_class_levels_b1 (K : Frag) (E : XK) : TS :=
    tSeq (tAsg (tOp (oIx K) (dVar 2) (tUn uNeg (tC (.int 1)))) (gName 4))
    (stop (t_class_levels_b1_1 K E))
def t_class_levels_3 (K : Frag) (E : XK) : TS :=
    tRet (dVar 2)
def t_class_levels_2 (K : Frag) (E : XK) : TS :=
    tSeq (tDrop (dML K mRev (dVar 2) tNil))
    (stop (t_class_levels_3 K E))
def t_class_levels_1 (K : Frag) (E : XK) : TS :=
    tSeq (dFor (iRev K (tCB (cList K) (tCons (dVar 0) (tNil)))) (gName 3) (t_class_levels_b1 K E))
    (stop (t_class_levels_2 K E))
def t_class_levels (K : Frag) (E : XK) : TS :=
    tSeq (tAsg (dLst (tCons (dCall (sp_numbered_once K) (EW E) (tCons (dVar 1) (tNil))) (tNil))) (gName 2))
    (stop (t_class_levels_1 K E))
end S
-- fn: class_levels
-- law: k49
-- deps: Tbl
-- tupK: yes
namespace S
open PySem PySem.Spec PyProof.Rows L2
def sp_class_levels (K : Frag) : Sp := fun vs H Q _ => ∃ (pl pe : Addr) (ls : Lvs) (es : Ends3), vs = [.ref pl, .ref pe] ∧ TbG false K H pl ls ∧ SqA K H pe (es.map obV) ∧ okT ls es ∧ smT ls es ∧
  ∀ q cs H', Same H H' → H q = none → H' q = some (.lst (cs.map V.ref)) → Paired (ClsO H') cs (cls ls es) → Q (.ref q) H'
theorem pure_class_levels {K : Frag} (vs : List V) (H : Hp) (Q : VK) (E : XK) (h : sp_class_levels K vs H Q E) : t_class_levels K E { nx := fun _ H' => Q .non H', rt := Q } (start ["levels", "ends", "classes", "pairs", "below", "low", "high"] vs) H := by
  obtain ⟨pl, pe, ls, es, rfl, ⟨xs, hx, hL⟩, hE, ok, sm, k⟩ := h
  have hx : SqA K H pl (xs.map V.ref) := hx
  walk_at "gx"
  refine ⟨pe, num es, rfl, .B es hE, by rw [num_len]; exact sm.2.2, fun c0 H1 e1 nc hc0 => ?_⟩
  walk_at "gx"
  refine ⟨fun q nq => ?_⟩
  have e2 : Same H (upd H1 q (.lst [V.ref c0])) := e1.trans (same_new nq)
  have hx2 := Same.sqa e2 hx
  have nqH : H q = none := nn_of e1 nq
  walk_at "gx"
  refine ⟨fun ql nql => ?_⟩
  have lx := hL.length
  generalize hG : upd (upd H1 q (HO.lst [V.ref c0])) ql (.lst (xs.map V.ref)) = G
  have e3 : Same (upd H1 q (.lst [V.ref c0])) G := hG ▸ same_new nql
  have hql : G ql = some (.lst (xs.map V.ref)) := hG ▸ upd_same
  have hq0 : G q = some (.lst [V.ref c0]) := e3 _ _ upd_same
  have dql : ql ≠ q := fun z => by rw [z] at nql; rw [upd_same] at nql; cases nql
  have hc1 : G c0 = some (.lst (intsN (num es))) := e3 _ _ (up_of (ne_of_none hc0 nq) hc0)
  refine for_rev (K := K) (fun i σ H' => (∃ a b c e, σ = [some (.ref pl), some (.ref pe), some (.ref q), a, b, c, e]) ∧ Same H H' ∧ SameX q G H' ∧ ∃ cs : List Addr, H' q = some (.lst (cs.map V.ref)) ∧ (∀ c ∈ cs, c ≠ q) ∧ Paired (ClsO H') cs (cls (ls.drop (ls.length - i)) es).reverse)
    (.inl (SqL.of hql)) ⟨⟨_, _, _, _, rfl⟩, e2.trans e3, SameX.refl _ _, [c0], hq0, ?_, ?_⟩ (fun i σ H' z ys => ⟨fun h => SameX.seq z.2.2.1 h dql, fun h => SameX.tup z.2.2.1 h hq0⟩) ?_ ?_
  · intro c hc
    rw [List.mem_singleton.mp hc]
    exact fun z => by rw [z] at hc0; rw [nq] at hc0; cases hc0
  · rw [Nat.sub_zero, List.drop_length]
    refine .cons ?_ .nil
    show G c0 = some (.lst (intsN (num (es.map BT.lf))))
    rw [num_map (g := BT.lf) fun x _ y _ z => by injection z]
    exact hc1
  · rintro i x σ H3 il hi ⟨⟨a, b, c, e, rfl⟩, e3, ex, cs, hq3, ncs, hC⟩
    rw [List.length_map] at il hi
    obtain ⟨lv, hlv, rfl⟩ := lay_get hi
    rw [lx] at il hlv
    obtain ⟨ps, hps, hlP⟩ := lcg_to hL hlv
    have dj : ls.drop (ls.length - 1 - i) = ps :: ls.drop (ls.length - i) := by
      obtain ⟨g1, g2⟩ := List.getElem?_eq_some_iff.mp hps
      rw [List.drop_eq_getElem_cons g1, g2, show ls.length - 1 - i + 1 = ls.length - i from by omega]
    have ok2 := okT.drop (ls.length - 1 - i) ok
    rw [dj] at ok2
    obtain ⟨ok2, _⟩ := ok2
    generalize hB : ls.drop (ls.length - i) = B at *
    obtain ⟨rest, hr⟩ := cls_head B es
    rw [hr, List.reverse_cons] at hC
    obtain ⟨cs', c1, rfl, hC', hc⟩ := paired_last hC
    have hq3' : H3 q = some (.lst (cs'.map V.ref ++ [.ref c1])) := by rw [hq3, List.map_append]; rfl
    walk_at "gx"
    refine .of (L2.atI_last _ _) ?_
    walk_at "gx"
    obtain ⟨ts, hts, hrow⟩ := LvG.same hlP e3
    have hts : SqA K H3 lv (ts.map V.ref) := hts
    have lps : ps.length ≤ 1000000 := sm.2.1 _ (List.mem_of_getElem? hps)
    refine lc_gen (K := K) ps (fun _ => true) (fun a x => ∃ t, x = V.ref t ∧ RowT K H3 t a) (fun D a y H' => ∃ b, y = V.ref b ∧ H' b = some (.tup [.int (ixF (dst (trees B es)) (gT (trees B es) a.1) : Nat), .int (ixF (dst (trees B es)) (gT (trees B es) a.2) : Nat)])) hts (to_refs hrow) (by rw [sizeLine_eq]; omega) ?_ ?_ ?_
    · rintro D a y H H' l hD ⟨b, rfl, hb⟩ ex
      exact ⟨b, rfl, ex _ _ hb (ne_of hb hD fun z => nomatch z)⟩
    · rintro D l a x H4 A B' hD hl ha ⟨t, rfl, ht⟩ e4 hA _
      have ht4 := RowT.same ht e4
      have hc4 : H4 c1 = some (.lst (intsN (num (trees B es)))) := e4 _ _ hc
      refine ⟨t, _, rfl, ht4, rfl, _, _, rfl, _, _, rfl, rfl, ?_⟩
      refine ⟨rfl, ?_⟩
      unfold tYes
      dsimp only
      rw [if_pos rfl]
      obtain ⟨o1, o2⟩ := ok2 a ha
      rw [← trees_len] at o1 o2
      walk_at "gx"
      refine .of (L2.atI_nat (intsN_get (num_get (gT_get o1)))) ?_
      walk_at "gx"
      refine .of (L2.atI_nat (intsN_get (num_get (gT_get o2)))) ?_
      refine Need.mk (by rw [sizeLine_eq]; show 2 ≤ 16777216; decide) ⟨fun T hT => ?_⟩
      exact hA _ _ (same_new hT) rfl ⟨T, rfl, upd_same⟩
    · intro D ys H4 hD hl hP e4
      rw [List.filter_eq_self.mpr fun _ _ => rfl] at hP
      obtain ⟨bs, rfl, hbs⟩ := refs_of hP
      let f : Nat × Nat → Nat × Nat := fun a => (ixF (dst (trees B es)) (gT (trees B es) a.1), ixF (dst (trees B es)) (gT (trees B es) a.2))
      have en : num (ps.map f) = num (trees (ps :: B) es) := by
        let g : BT → Nat × Nat := fun t => (ixF (dst (trees B es)) t.l, ixF (dst (trees B es)) t.r)
        have e1 : ps.map f = (trees (ps :: B) es).map g := by
          show _ = (ps.map _).map g
          rw [List.map_map]; rfl
        rw [e1]
        refine num_map fun x hx y hy z => ?_
        obtain ⟨a, ha, rfl⟩ := List.mem_map.mp hx
        obtain ⟨b, hb, rfl⟩ := List.mem_map.mp hy
        obtain ⟨o1, o2⟩ := ok2 a ha
        obtain ⟨o3, o4⟩ := ok2 b hb
        rw [← trees_len] at o1 o2 o3 o4
        have z1 := congrArg Prod.fst z
        have z2 := congrArg Prod.snd z
        rw [show gT (trees B es) a.1 = gT (trees B es) b.1 from ixF_inj (mem_dst.mpr (gT_mem o1)) (mem_dst.mpr (gT_mem o3)) z1, show gT (trees B es) a.2 = gT (trees B es) b.2 from ixF_inj (mem_dst.mpr (gT_mem o2)) (mem_dst.mpr (gT_mem o4)) z2]
      dsimp only [tNil]
      refine ⟨D, _, rfl, .T (ps.map f) bs (.inl (SqL.of hl)) (paired_fR f hbs), by rw [num_len, List.length_map]; exact lps, fun c2 H5 e5 nc2 hc2 => ?_⟩
      have hq5 := e5 _ _ (e4 _ _ hq3)
      have lc := hC.length
      rw [List.length_append, List.length_append, List.length_reverse] at lc
      have lB : rest.length + 1 = B.length + 1 := by rw [← cls_len B es, hr]; rfl
      have lB2 : B.length ≤ ls.length := by rw [← hB, List.length_drop]; omega
      have lls := sm.1
      have dc2 : c2 ≠ q := fun z => by rw [z, e4 _ _ hq3] at nc2; cases nc2
      walk_at "gx"
      refine Need.mk (by rw [List.length_map, List.length_append, sizeLine_eq]; simp only [List.length_cons, List.length_nil] at lc ⊢; omega) ?_
      refine ⟨⟨_, _, _, _, rfl⟩, Same.mut ((e3.trans e4).trans e5) nqH, ?_, cs' ++ [c1] ++ [c2], ?_, ?_, ?_⟩
      · exact SameX.put (SameX.then ex (e4.trans e5))
      · rw [List.map_append (l₂ := [c2])]; exact upd_same
      · intro c hc
        rcases List.mem_append.mp hc with hc | hc
        · exact ncs c hc
        · rw [List.mem_singleton.mp hc]; exact dc2
      · rw [show ls.length - (i + 1) = ls.length - 1 - i from by omega, dj]
        show Paired _ _ (num (trees (ps :: B) es) :: cls B es).reverse
        rw [List.reverse_cons, ← en]
        have mv : ∀ {c : Addr} {ns : List Nat}, c ≠ q → ClsO H5 c ns → ClsO (upd H5 q (.lst ((cs' ++ [c1]).map V.ref ++ [.ref c2]))) c ns := fun n h => up_of n h
        refine Paired.snoc ?_ (mv dc2 hc2)
        rw [hr, List.reverse_cons]
        refine paired_mem hC fun c ns hm h => mv (ncs c hm) ((e4.trans e5) _ _ h)
  · rintro σ H3 ⟨⟨a, b, c, e, rfl⟩, e3, ex, cs, hq3, ncs, hC⟩
    rw [List.length_map, lx, Nat.sub_self, List.drop_zero] at hC
    walk_at "gx"
    refine k q cs.reverse _ (Same.mut e3 nqH) nqH (by rw [List.map_reverse]; exact upd_same) ?_
    have := paired_rev hC
    rw [List.reverse_reverse] at this
    exact paired_mem this fun c ns hm h => up_of (ncs c (List.mem_reverse.mp hm)) h
end S
-- deps: Fstay
namespace S
open PySem PySem.Spec PyProof.Rows L2
/-- enumerate over a list or a tuple that stood at an older heap H0 -/
theorem for_enA0 {K : Frag} {p : Addr} {xs : List V} {g : TG} {tb : TS} {D : L2.Ends} {σ : L2.St} {H0 H : Hp} (Pv : Nat → L2.St → Hp → Prop) (hx : SqA K H0 p xs) (e0 : Same H0 H) (h0 : Pv 0 σ H) (hl : ∀ i σ H', Pv i σ H' → Same H0 H')
    (hs : ∀ (i : Nat) x σ H, xs[i]? = some x → Pv i σ H → ∀ T, H T = none → g (.ref T) σ (upd H T (.tup [.int (i : Int), x])) fun σ2 H2 => tb { D with nx := Pv (i + 1), ct := Pv (i + 1), bk := D.nx } σ2 H2) (hd : ∀ σ H, Pv xs.length σ H → D.nx σ H) :
    EnA K H p (LoopR D g tb σ) := by
  rcases hx with hx | hx
  · refine ⟨.inr ⟨⟨xs, e0.seq hx⟩, fun i m σ H' => i ≤ xs.length ∧ m = xs.length - i ∧ Pv i σ H', ⟨_, Nat.zero_le _, rfl, h0⟩, ?_⟩⟩
    rintro i m σ H' ⟨hi, rfl, hp⟩
    have hq := (hl i σ H' hp).seq hx
    by_cases hlt : i < xs.length
    · have hxi : xs[i]? = some xs[i] := List.getElem?_eq_getElem hlt
      refine .inr ⟨⟨xs, _, hq, hxi⟩, Pv (i + 1), fun σ' H' q => ⟨_, by omega, by omega, rfl, q⟩, ?_⟩
      rintro v H' ⟨T, y, rfl, hT, rfl, hy⟩
      have e := hy xs hq
      exact hs i y σ _ e hp T hT
    · have e : i = xs.length := by omega
      subst e
      exact .inl ⟨⟨xs, hq, Nat.le_refl _⟩, hd _ _ hp⟩
  · obtain ⟨h1, h2⟩ := for_en Pv (Same.tup e0 hx) h0 (fun i σ H' hi hp => Same.tup (hl i σ H' hp) hx) hs hd
    exact ⟨.inl ⟨h1, h2⟩⟩
end S
namespace S
open PySem PySem.Spec PyProof.Rows L2
def t_first_nodes_b1 (K : Frag) (E : XK) : TS :=
    tDrop (dSetd (dVar 1) (dVar 3) (dVar 2))
def t_first_nodes_2 (K : Frag) (E : XK) : TS :=
    tRet (dVar 1)
def t_first_nodes_1 (K : Frag) (E : XK) : TS :=
    tSeq (dFor (iEnA K (dVar 0)) (gTup K 2 (gCons (gName 2) (gCons (gName 3) (gNil)))) (t_first_nodes_b1 K E))
    (stop (t_first_nodes_2 K E))
def t_first_nodes (K : Frag) (E : XK) : TS :=
    tSeq (tAsg (dNewAny) (gName 1))
    (stop (t_first_nodes_1 K E))
end S
-- fn: first_nodes
-- law: k49
-- dX: first
-- enA: yes
-- deps: numbered_once Fen
namespace S
open PySem PySem.Spec PyProof.Rows L2
/-- the first places of the numbers -/
def FirN (cs : List Nat) (kvs : List (Key × V)) : Prop := ∀ c : Nat, valV kvs (.inl (c : Int)) = if c ∈ cs then some (.int (ixF cs c : Nat)) else none
def sp_first_nodes (K : Frag) : Sp := fun vs H Q _ => ∃ (p : Addr) (cs : List Nat), vs = [.ref p] ∧ SqA K H p (intsN cs) ∧ cs.length ≤ 1000000 ∧ ∀ d H' kvs, Same H H' → H d = none → H' d = some (.dK kvs) → FirN cs kvs → Q (.ref d) H'
theorem pure_first_nodes {K : Frag} (vs : List V) (H : Hp) (Q : VK) (E : XK) (h : sp_first_nodes K vs H Q E) : t_first_nodes K E { nx := fun _ H' => Q .non H', rt := Q } (start ["classes", "first", "node", "number"] vs) H := by
  obtain ⟨p, cs, rfl, hp, lc, k⟩ := h
  walk_at "gx"
  refine .K fun d nd => ?_
  walk_at "gx"
  have e1 := same_new (o := .dK []) nd
  refine for_enA0 (K := K) (H0 := H) (fun i σ H' => (∃ a b, σ = [some (.ref p), some (.ref d), a, b]) ∧ Same H H' ∧ ∃ kvs, H' d = some (.dK kvs) ∧ kvs.length ≤ i ∧ FirN (cs.take i) kvs) hp e1 ⟨⟨_, _, rfl⟩, e1, [], upd_same, Nat.zero_le _, fun c => rfl⟩ (fun i σ H' z => z.2.1) ?_ ?_
  · rintro i v σ H3 hi ⟨⟨a, b, rfl⟩, e3, kvs, hd3, lk, hf⟩ T hT
    obtain ⟨c, hg, rfl⟩ := lay_get (f := fun n : Nat => V.int (n : Int)) hi
    have il : i < cs.length := (List.getElem?_eq_some_iff.mp hg).1
    have tk : cs.take (i + 1) = cs.take i ++ [c] := by rw [List.take_add_one, hg]; rfl
    have eT := same_new (o := .tup [V.int (i : Int), .int (c : Int)]) hT
    have e4 := e3.trans eT
    have hd4 := eT _ _ hd3
    refine ⟨T, [.int i, .int (c : Int)], rfl, SqT.of upd_same, rfl, _, _, rfl, _, _, rfl, rfl, ?_⟩
    walk_at "gx"
    refine (⟨.K _ hd4, ?_⟩ : DxC _ d _)
    walk_at "gx"
    have lz : kvs.length < sizeLine := by rw [sizeLine_eq]; omega
    refine ⟨⟨_, _, .K (k := .inl (c : Int)) hd4 rfl lz, fun v hv => ?_, fun hn => ?_⟩⟩
    · have hm : c ∈ cs.take i := by
        rcases Classical.em (c ∈ cs.take i) with h | h
        · exact h
        · rw [hf c, if_neg h] at hv; cases hv
      refine ⟨⟨_, _, rfl⟩, e4, kvs, hd4, by omega, fun c' => ?_⟩
      rw [hf c', tk]
      by_cases h : c' ∈ cs.take i
      · rw [if_pos h, if_pos (List.mem_append_left _ h), ixF_app h]
      · rw [if_neg h, if_neg]
        intro z
        rcases List.mem_append.mp z with z | z
        · exact h z
        · rw [List.mem_singleton.mp z] at h; exact h hm
    · have hm : c ∉ cs.take i := fun h => by rw [hf c, if_pos h] at hn; cases hn
      refine ⟨⟨_, _, rfl⟩, Same.mut e4 nd, _, upd_same, ?_, fun c' => ?_⟩
      · have := length_putK kvs (.inl (c : Int)) (.int (i : Int)); omega
      · rw [valV_put, tk]
        by_cases e : c' = c
        · subst e
          rw [if_pos rfl, if_pos (by simp), ixF_new hm, List.length_take, Nat.min_eq_left (Nat.le_of_lt il)]
        · rw [if_neg (fun z => e (by injection z with z; exact_mod_cast z)), hf c']
          by_cases h : c' ∈ cs.take i
          · rw [if_pos h, if_pos (List.mem_append_left _ h), ixF_app h]
          · rw [if_neg h, if_neg]
            intro z
            rcases List.mem_append.mp z with z | z
            · exact h z
            · exact e (List.mem_singleton.mp z)
  · rintro σ H3 ⟨⟨a, b, rfl⟩, e3, kvs, hd3, lk, hf⟩
    have ll : (intsN cs).length = cs.length := by unfold intsN; rw [List.length_map]
    rw [ll, List.take_length] at hf
    walk_at "gx"
    exact k d H3 kvs e3 nd hd3 hf
end S
namespace S
open PySem PySem.Spec PyProof.Rows L2
def t_reduced_b2_3 (K : Frag) (E : XK) : TS :=
    tDrop (dML K mApp (dVar 10) (tCons (dTupK (tCons (dVar 14) (tCons (dVar 15) (tNil)))) (tNil)))
def t_reduced_b2_2 (K : Frag) (E : XK) : TS :=
    tSeq (tAsg (dSetd (dVar 9) (tOp (oIx K) (dVar 8) (dVar 13)) (tCB cLenD (tCons (dVar 9) (tNil)))) (gName 15))
    (stop (t_reduced_b2_3 K E))
def t_reduced_b2_1 (K : Frag) (E : XK) : TS :=
    tSeq (tAsg (dSetd (dVar 9) (tOp (oIx K) (dVar 8) (dVar 12)) (tCB cLenD (tCons (dVar 9) (tNil)))) (gName 14))
    (stop (t_reduced_b2_2 K E))
def t_reduced_b2 (K : Frag) (E : XK) : TS :=
    tSeq (tAsg (tOp (oIx K) (dVar 6) (tOp (oIxN K) (dVar 7) (dVar 11))) (gTup K 2 (gCons (gName 12) (gCons (gName 13) (gNil)))))
    (stop (t_reduced_b2_1 K E))
def t_reduced_b1_6 (K : Frag) (E : XK) : TS :=
    tAsg (tCB (cListX K) (tCons (dVar 9) (tNil))) (gName 3)
def t_reduced_b1_5 (K : Frag) (E : XK) : TS :=
    tSeq (tDrop (dML K mApp (dVar 4) (tCons (tCB (cTuple K) (tCons (dVar 10) (tNil))) (tNil))))
    (stop (t_reduced_b1_6 K E))
def t_reduced_b1_4 (K : Frag) (E : XK) : TS :=
    tSeq (dFor (iSeq K (dVar 3)) (gName 11) (t_reduced_b2 K E))
    (stop (t_reduced_b1_5 K E))
def t_reduced_b1_3 (K : Frag) (E : XK) : TS :=
    tSeq (tAsg (dLst (tNil)) (gName 10))
    (stop (t_reduced_b1_4 K E))
def t_reduced_b1_2 (K : Frag) (E : XK) : TS :=
    tSeq (tAsg (dNewAny) (gName 9))
    (stop (t_reduced_b1_3 K E))
def t_reduced_b1_1 (K : Frag) (E : XK) : TS :=
    tSeq (tAsg (tOp (oIx K) (dVar 2) (tOp (oAdd K) (dVar 5) (tC (.int 1)))) (gName 8))
    (stop (t_reduced_b1_2 K E))
def t_reduced_b1 (K : Frag) (E : XK) : TS :=
    tSeq (tAsg (dCall (sp_first_nodes K) (EW E) (tCons (tOp (oIx K) (dVar 2) (dVar 5)) (tNil))) (gName 7))
    (stop (t_reduced_b1_1 K E))
def t_reduced_5 (K : Frag) (E : XK) : TS :=
    tRet (dTupK (tCons (tCB (cTuple K) (tCons (dVar 4) (tNil))) (tCons (tCB (cTuple K) (tCons (dLc (iSeq K (dVar 3)) (gName 11) (tYes) (tOp (oIx K) (dVar 1) (tOp (oIxN K) (dVar 16) (dVar 11))) [11]) (tNil))) (tNil))))
def t_reduced_4 (K : Frag) (E : XK) : TS :=
    tSeq (tAsg (dCall (sp_first_nodes K) (EW E) (tCons (tOp (oIx K) (dVar 2) (tUn uNeg (tC (.int 1)))) (tNil))) (gName 16))
    (stop (t_reduced_5 K E))
def t_reduced_3 (K : Frag) (E : XK) : TS :=
    tSeq (dFor (iEnA K (dVar 0)) (gTup K 2 (gCons (gName 5) (gCons (gName 6) (gNil)))) (t_reduced_b1 K E))
    (stop (t_reduced_4 K E))
def t_reduced_2 (K : Frag) (E : XK) : TS :=
    tSeq (tAsg (dLst (tNil)) (gName 4))
    (stop (t_reduced_3 K E))
def t_reduced_1 (K : Frag) (E : XK) : TS :=
    tSeq (tAsg (dLst (tCons (tOp (oIx K) (tOp (oIx K) (dVar 2) (tC (.int 0))) (tC (.int 0))) (tNil))) (gName 3))
    (stop (t_reduced_2 K E))
def t_reduced (K : Frag) (E : XK) : TS :=
    tSeq (tAsg (dCall (sp_class_levels K) (EW E) (tCons (dVar 0) (tCons (dVar 1) (tNil)))) (gName 2))
    (stop (t_reduced_1 K E))
end S
-- fn: reduced
-- law: k49
-- deps: class_levels first_nodes
-- dX: visited first last
-- enA: yes
-- tupK: yes
namespace S
open PySem PySem.Spec PyProof.Rows L2
def sp_reduced (K : Frag) : Sp := fun vs H Q _ => ∃ (pl pe : Addr) (ls : Lvs) (es : Ends3), vs = [.ref pl, .ref pe] ∧ TbG false K H pl ls ∧ SqA K H pe (es.map obV) ∧ okT ls es ∧ smT ls es ∧ 0 < wid ls es ∧
  ∀ r a b H', Same H H' → H r = none → H' r = some (.tup [.ref a, .ref b]) → TbG true K H' a (canL ls.length [gT (trees ls es) 0]) → SqT K H' b ((canE ls.length [gT (trees ls es) 0]).map obV) → Q (.ref r) H'
section
variable {K : Frag} {E : XK} {Q : VK} {D : L2.Ends}
/-- the key of a tree in visited -/
def fKy (T : List BT) (t : BT) : Key := .inl (ixF (dst T) t : Nat)
theorem fKy_inj {T : List BT} {a b : BT} (ha : a ∈ T) (hb : b ∈ T) (e : fKy T a = fKy T b) : a = b := by
  injection e with e
  exact ixF_inj (mem_dst.mpr ha) (mem_dst.mpr hb) (by exact_mod_cast e)
theorem fKy_ix {T S : List BT} (hs : ∀ t ∈ S, t ∈ T) {t : BT} (ht : t ∈ S) : ixF (dst (S.map (fKy T))) (fKy T t) = ixF (dst S) t := by
  rw [dst_map fun x hx y hy => fKy_inj (hs x hx) (hs y hy)]
  exact ixF_map fun x hx e => fKy_inj (hs x (mem_dst.mp hx)) (hs t ht) e
/-- one setdefault -/
theorem vis_set {T S : List BT} {t : BT} {H : Hp} {dv : Addr} {Q : VK} (hs : ∀ x ∈ S ++ [t], x ∈ T) (hd : H dv = some (.dK (kvF 0 (dst (S.map (fKy T)))))) (lS : S.length < 10000000) (q : ∀ H', SameX dv H H' → H' dv = some (.dK (kvF 0 (dst ((S ++ [t]).map (fKy T))))) → Q (.int (ixF (dst (S ++ [t])) t : Nat)) H') :
    Sdf H dv (.int (ixF (dst T) t : Nat)) (.int ((dst (S.map (fKy T))).length : Nat)) Q := by
  have lz : (kvF 0 (dst (S.map (fKy T)))).length < sizeLine := by
    have := dst_len (S.map (fKy T))
    rw [List.length_map] at this
    rw [kvF_len, sizeLine_eq]; omega
  have ea : dst ((S ++ [t]).map (fKy T)) = addD (dst (S.map (fKy T))) (fKy T t) := by rw [List.map_append, List.map_singleton, dst_snoc]
  have ei : ixF (addD (dst (S.map (fKy T))) (fKy T t)) (fKy T t) = ixF (dst (S ++ [t])) t := by
    rw [← ea]; exact fKy_ix hs (by simp)
  refine ⟨⟨_, _, .K (k := fKy T t) hd rfl lz, fun v hv => ?_, fun hn => ?_⟩⟩
  · have hm : fKy T t ∈ dst (S.map (fKy T)) := by
      rcases Classical.em (fKy T t ∈ dst (S.map (fKy T))) with h | h
      · exact h
      · rw [(kvF_set.2 h).1] at hv; cases hv
    obtain ⟨g1, g2⟩ := kvF_set.1 hm
    rw [g1] at hv
    cases hv
    rw [ei]
    exact q H (SameX.refl _ _) (by rw [ea, g2]; exact hd)
  · have hm : fKy T t ∉ dst (S.map (fKy T)) := fun h => by rw [(kvF_set.1 h).1] at hn; cases hn
    obtain ⟨g1, g2, g3⟩ := kvF_set.2 hm
    rw [g2, ← g3, ei]
    exact q _ SameX.upd (by rw [ea]; exact upd_same)
theorem nnX {st p : Addr} {G H : Hp} {o : HO} (e : SameX st G H) (h : H st = some o) (n : H p = none) : G p = none := by
  cases g : G p with
  | none => rfl
  | some u => rw [e _ _ g fun z => by rw [z, h] at n; cases n] at n; cases n
theorem red_b4 {pl pe qc cu rs lv d1 bl dv ro : Addr} {n : Int} {x11 x12 x13 x14 x15 x16 : Option V} {F T : List BT} {ls : Lvs} {es : Ends3} {ps : List (Nat × Nat)} {kv1 : List (Key × V)} {rows : List Addr} {G H : Hp}
    (e0 : Same G H) (ndv : G dv = none) (nro : G ro = none) (hdv : H dv = some (.dK [])) (hro : H ro = some (.lst [])) (hcu : G cu = some (.lst (intsN (F.map (ixF (dst (trees (ps :: ls) es))))))) (hlv : LvG false K G lv ps) (hd1 : G d1 = some (.dK kv1)) (hf1 : FirN (num (trees (ps :: ls) es)) kv1)
    (hbl : G bl = some (.lst (intsN (num (trees ls es))))) (hrs : G rs = some (.lst (rows.map V.ref))) (ok : okT (ps :: ls) es) (sub : ∀ t ∈ F, t ∈ trees (ps :: ls) es) (lF : F.length ≤ 1000000) (lR : rows.length ≤ 10000)
    (k : ∀ (cu' rw' : Addr) (y11 y12 y13 y14 y15 : Option V) (H' : Hp), SameX rs G H' → H' rs = some (.lst ((rows ++ [rw']).map V.ref)) → LvG true K H' rw' (rowF F) → H' cu' = some (.lst (intsN ((dst (chl F)).map (ixF (dst (trees ls es)))))) → G cu' = none →
      D.nx [some (.ref pl), some (.ref pe), some (.ref qc), some (.ref cu'), some (.ref rs), some (.int n), some (.ref lv), some (.ref d1), some (.ref bl), some (.ref dv), some (.ref ro), y11, y12, y13, y14, y15, x16] H') :
    t_reduced_b1_4 K E D [some (.ref pl), some (.ref pe), some (.ref qc), some (.ref cu), some (.ref rs), some (.int n), some (.ref lv), some (.ref d1), some (.ref bl), some (.ref dv), some (.ref ro), x11, x12, x13, x14, x15, x16] H := by
  obtain ⟨ts, hts, hrow⟩ := hlv
  have hts : SqA K G lv (ts.map V.ref) := hts
  have chs : ∀ t ∈ chl F, t ∈ trees ls es := fun t ht => by
    obtain ⟨u, hu, e⟩ := List.mem_flatMap.mp ht
    have := chl_sub ok (sub u hu)
    simp only [List.mem_cons, List.not_mem_nil, or_false] at e
    rcases e with e | e
    · rw [e]; exact this.1
    · rw [e]; exact this.2
  have dne : dv ≠ ro := ne_of hdv hro fun z => nomatch z
  refine for_seq0 (K := K) (H0 := G) (fun j σ H' => (∃ a b c d e, σ = [some (.ref pl), some (.ref pe), some (.ref qc), some (.ref cu), some (.ref rs), some (.int n), some (.ref lv), some (.ref d1), some (.ref bl), some (.ref dv), some (.ref ro), a, b, c, d, e, x16]) ∧ Same G H' ∧
    H' dv = some (.dK (kvF 0 (dst ((chl (F.take j)).map (fKy (trees ls es)))))) ∧ ∃ rt : List Addr, H' ro = some (.lst (rt.map V.ref)) ∧ Paired (fun (b : Addr) (p : Nat × Nat) => H' b = some (.tup [.int (p.1 : Int), .int (p.2 : Int)])) rt ((rowF F).take j))
    (.inl (SqL.of hcu)) e0 ⟨⟨_, _, _, _, _, rfl⟩, e0, hdv, [], hro, by rw [List.take_zero]; exact .nil⟩ (fun i σ H' z => z.2.1) ?_ ?_
  · rintro j x σ H3 hj ⟨⟨a, b, c, d, e, rfl⟩, e3, hd3, rt, hr3, hP⟩
    obtain ⟨c0, hc0, rfl⟩ := lay_get (f := fun n : Nat => V.int (n : Int)) hj
    obtain ⟨t, ht, rfl⟩ := lay_get hc0
    have tF := List.mem_of_getElem? ht
    have tT := sub t tF
    have jl : j < F.length := (List.getElem?_eq_some_iff.mp ht).1
    have first := num_first tT
    obtain ⟨p, hp, et⟩ := lay_get (l := ps) first
    obtain ⟨o1, o2⟩ := ok.1 p (List.mem_of_getElem? hp)
    rw [← trees_len] at o1 o2
    obtain ⟨tp, htp, hrp⟩ := lcg_at hrow hp
    have el : gT (trees ls es) p.1 = t.l := by rw [et]; rfl
    have er : gT (trees ls es) p.2 = t.r := by rw [et]; rfl
    have tk : F.take (j + 1) = F.take j ++ [t] := by rw [List.take_add_one, ht]; rfl
    have hv1 : valV kv1 (.inl (ixF (dst (trees (ps :: ls) es)) t : Nat)) = some (.int (ixF (num (trees (ps :: ls) es)) (ixF (dst (trees (ps :: ls) es)) t) : Nat)) := by
      rw [hf1, if_pos]
      exact List.mem_map_of_mem tT
    have hd13 := e3 _ _ hd1
    have hts3 := Same.sqa e3 hts
    have hbl3 := e3 _ _ hbl
    walk_at "gx"
    refine DG.n (.inl hd13) hv1 ?_
    walk_at "gx"
    refine .of (L2.atI_nat (by rw [List.getElem?_map, htp]; rfl)) ?_
    refine ⟨tp, _, rfl, Same.tup e3 hrp, rfl, _, _, rfl, _, _, rfl, rfl, ?_⟩
    have mT := mem_chl tF
    have lcf := chl_len F
    have lct := chl_len (F.take j)
    have ljm : (F.take j).length ≤ F.length := by rw [List.length_take]; omega
    have hsub1 : ∀ x ∈ chl (F.take j) ++ [t.l], x ∈ trees ls es := fun x hx => by
      rcases List.mem_append.mp hx with h | h
      · refine chs x ?_
        obtain ⟨u, hu, e⟩ := List.mem_flatMap.mp h
        exact List.mem_flatMap.mpr ⟨u, List.mem_of_mem_take hu, e⟩
      · rw [List.mem_singleton.mp h]; exact chs _ mT.1
    have hsub2 : ∀ x ∈ chl (F.take j) ++ [t.l] ++ [t.r], x ∈ trees ls es := fun x hx => by
      rcases List.mem_append.mp hx with h | h
      · exact hsub1 x h
      · rw [List.mem_singleton.mp h]; exact chs _ mT.2
    walk_at "gx"
    refine (⟨.K _ hd3, ?_⟩ : DxC _ dv _)
    walk_at "gx"
    refine .of (L2.atI_nat (intsN_get (num_get (gT_get o1)))) ?_
    refine (⟨⟨_, .K hd3, ?_⟩⟩ : LnD _ dv _)
    rw [kvF_len, el]
    refine vis_set hsub1 hd3 (by omega) fun H4 e4 hd4 => ?_
    have hbl4 : H4 bl = some (.lst (intsN (num (trees ls es)))) := e4 _ _ hbl3 (ne_of hbl3 hd3 fun z => nomatch z)
    walk_at "gx"
    refine (⟨.K _ hd4, ?_⟩ : DxC _ dv _)
    walk_at "gx"
    refine .of (L2.atI_nat (intsN_get (num_get (gT_get o2)))) ?_
    refine (⟨⟨_, .K hd4, ?_⟩⟩ : LnD _ dv _)
    rw [kvF_len, er]
    refine vis_set hsub2 hd4 (by rw [List.length_append]; simp only [List.length_cons, List.length_nil]; omega) fun H5 e5 hd5 => ?_
    have e45 := e4.trans e5
    have hr5 : H5 ro = some (.lst (rt.map V.ref)) := e45 _ _ hr3 dne.symm
    walk_at "gx"
    refine ⟨fun tn ntn => ?_⟩
    have e6 := same_new (o := .tup [V.int (ixF (dst (chl (F.take j) ++ [t.l])) t.l : Nat), V.int (ixF (dst (chl (F.take j) ++ [t.l] ++ [t.r])) t.r : Nat)]) ntn
    have hr6 := e6 _ _ hr5
    have hd6 := e6 _ _ hd5
    have ecc : chl F = chl (F.take j) ++ [t.l] ++ [t.r] ++ chl (F.drop (j + 1)) := by
      have : F = F.take (j + 1) ++ F.drop (j + 1) := (List.take_append_drop _ _).symm
      rw [← chl_snoc, ← tk]
      conv => lhs; rw [this]
      unfold chl; rw [List.flatMap_append]
    have ev1 : ixF (dst (chl (F.take j) ++ [t.l])) t.l = ixF (dst (chl F)) t.l := by
      rw [ecc, List.append_assoc, ix_dst_app (l := chl (F.take j) ++ [t.l]) (by simp)]
    have ev2 : ixF (dst (chl (F.take j) ++ [t.l] ++ [t.r])) t.r = ixF (dst (chl F)) t.r := by
      rw [ecc, ix_dst_app (l := chl (F.take j) ++ [t.l] ++ [t.r]) (by simp)]
    have rl : (rowF F).length = F.length := by unfold rowF; rw [List.length_map]
    have lrt := hP.length
    rw [List.length_take, rl] at lrt
    walk_at "gx"
    have eF : SameX dv H3 (upd H5 tn (.tup [V.int (ixF (dst (chl (F.take j) ++ [t.l])) t.l : Nat), V.int (ixF (dst (chl (F.take j) ++ [t.l] ++ [t.r])) t.r : Nat)])) := SameX.then e45 e6
    refine ⟨⟨_, _, _, _, _, rfl⟩, Same.mut (SameX.same e3 eF ndv) nro, ?_, rt ++ [tn], ?_, ?_⟩
    · rw [tk, chl_snoc]
      exact up_of dne hd6
    · rw [List.map_append]; exact upd_same
    · have er : (rowF F).take (j + 1) = (rowF F).take j ++ [(ixF (dst (chl F)) t.l, ixF (dst (chl F)) t.r)] := by
        rw [List.take_add_one]
        unfold rowF
        rw [List.getElem?_map, ht]; rfl
      rw [er]
      refine Paired.snoc (Paired.mapP hP fun b p h => ?_) ?_
      · exact up_of (ne_of h hr3 fun z => nomatch z) (eF _ _ h (ne_of h hd3 fun z => nomatch z))
      · show upd _ ro _ tn = _
        rw [← ev1, ← ev2]
        exact up_of (fun z => by rw [z, hr5] at ntn; cases ntn) upd_same
  · rintro σ H3 ⟨⟨a, b, c, d, e, rfl⟩, e3, hd3, rt, hr3, hP⟩
    have lF2 : (intsN (F.map (ixF (dst (trees (ps :: ls) es))))).length = F.length := by rw [intsN_len, List.length_map]
    have rl : (rowF F).length = F.length := by unfold rowF; rw [List.length_map]
    rw [lF2, List.take_length] at hd3
    rw [lF2, ← rl, List.take_length] at hP
    have hrs3 := e3 _ _ hrs
    have lrt := hP.length
    walk_at "gx"
    refine ⟨fun rw' H4 e4 hrw => ?_⟩
    have hrs4 := e4 _ _ hrs3
    walk_at "gx"
    have hd5 : upd H4 rs (.lst (rows.map V.ref ++ [.ref rw'])) dv = some (.dK (kvF 0 (dst ((chl F).map (fKy (trees ls es)))))) := up_of (fun z => by rw [z, hrs] at ndv; cases ndv) (e4 _ _ hd3)
    refine LsD.K hd5 ⟨fun cu' ncu => ?_⟩
    have ek : ((kvF 0 (dst ((chl F).map (fKy (trees ls es))))).map fun p => kV p.1) = intsN ((dst (chl F)).map (ixF (dst (trees ls es)))) := by
      rw [kvF_mapK, dst_map fun x hx y hy => fKy_inj (chs x hx) (chs y hy), List.map_map]
      unfold intsN
      rw [List.map_map]; rfl
    rw [ek]
    have eX : SameX rs G (upd H4 rs (.lst (rows.map V.ref ++ [.ref rw']))) := (Same.x (e3.trans e4)).put
    have eC := same_new (o := .lst (intsN ((dst (chl F)).map (ixF (dst (trees ls es)))))) ncu
    have hrw' : SqT K (upd H4 rs (.lst (rows.map V.ref ++ [.ref rw']))) rw' (rt.map V.ref) := SameX.tup SameX.upd hrw hrs4
    refine k cu' rw' a b c d e _ (SameX.then eX eC) (eC _ _ (by rw [List.map_append]; exact upd_same)) ⟨rt, Same.tup eC hrw', ?_⟩ upd_same (nnX eX upd_same ncu)
    exact Paired.mapP hP fun b p h => SqT.of (eC _ _ (up_of (ne_of (e4 _ _ h) hrs4 fun z => nomatch z) (e4 _ _ h)))
theorem LvG.sx {st a : Addr} {l : List V} {ps : List (Nat × Nat)} {H H' : Hp} (h : LvG true K H a ps) (e : SameX st H H') (hs : H st = some (.lst l)) : LvG true K H' a ps := by
  obtain ⟨ts, h1, h2⟩ := h
  have h1 : SqT K H a (ts.map V.ref) := h1
  exact ⟨ts, SameX.tup e h1 hs, Paired.mapP h2 fun _ _ r => SameX.tup e r hs⟩
theorem red_b1 {pl pe qc cu rs lv c1 c2 : Addr} {n : Nat} {x7 x8 x9 x10 x11 x12 x13 x14 x15 x16 : Option V} {F : List BT} {ls : Lvs} {es : Ends3} {ps : List (Nat × Nat)} {rows cs : List Addr} {H : Hp}
    (hcu : H cu = some (.lst (intsN (F.map (ixF (dst (trees (ps :: ls) es))))))) (hlv : LvG false K H lv ps) (hqc : H qc = some (.lst (cs.map V.ref))) (g1 : cs[n]? = some c1) (g2 : cs[n + 1]? = some c2) (h1 : H c1 = some (.lst (intsN (num (trees (ps :: ls) es))))) (h2 : H c2 = some (.lst (intsN (num (trees ls es)))))
    (hrs : H rs = some (.lst (rows.map V.ref))) (ok : okT (ps :: ls) es) (sub : ∀ t ∈ F, t ∈ trees (ps :: ls) es) (lP : ps.length ≤ 1000000) (lF : F.length ≤ 1000000) (lR : rows.length ≤ 10000)
    (k : ∀ (cu' rw' : Addr) (y7 y8 y9 y10 y11 y12 y13 y14 y15 : Option V) (H' : Hp), SameX rs H H' → H' rs = some (.lst ((rows ++ [rw']).map V.ref)) → LvG true K H' rw' (rowF F) → H' cu' = some (.lst (intsN ((dst (chl F)).map (ixF (dst (trees ls es)))))) → H cu' = none →
      D.nx [some (.ref pl), some (.ref pe), some (.ref qc), some (.ref cu'), some (.ref rs), some (.int n), some (.ref lv), y7, y8, y9, y10, y11, y12, y13, y14, y15, x16] H') :
    t_reduced_b1 K E D [some (.ref pl), some (.ref pe), some (.ref qc), some (.ref cu), some (.ref rs), some (.int n), some (.ref lv), x7, x8, x9, x10, x11, x12, x13, x14, x15, x16] H := by
  walk_at "gx"
  refine .of (L2.atI_nat (by rw [List.getElem?_map, g1]; rfl)) ?_
  walk_at "gx"
  refine ⟨c1, num (trees (ps :: ls) es), rfl, .inl (SqL.of h1), by rw [num_len, trees_len]; exact lP, fun d1 H1 kv1 e1 nd1 hd1 hf1 => ?_⟩
  have hqc1 := e1 _ _ hqc
  walk_at "gx"
  refine .of (L2.atI_nat (j := n + 1) (by rw [List.getElem?_map, g2]; rfl)) ?_
  walk_at "gx"
  refine NewAny.K fun dv ndv => ?_
  have e2 := same_new (o := .dK []) ndv
  walk_at "gx"
  refine ⟨fun ro nro => ?_⟩
  have e3 := same_new (o := .lst []) nro
  have nro1 : H1 ro = none := nn_of e2 nro
  walk_at "gx"
  refine red_b4 (T := []) (G := H1) (e2.trans e3) ndv nro1 (e3 _ _ upd_same) upd_same (e1 _ _ hcu) (hlv.same e1) hd1 hf1 (e1 _ _ h2) (e1 _ _ hrs) ok sub lF lR fun cu' rw' y11 y12 y13 y14 y15 H' eX hr hl hc hn => ?_
  exact k cu' rw' _ _ _ _ y11 y12 y13 y14 y15 H' (Same.thenX e1 eX) hr hl hc (nn_of e1 hn)
theorem pure_reduced (vs : List V) (H : Hp) (Q : VK) (E : XK) (h : sp_reduced K vs H Q E) : t_reduced K E { nx := fun _ H' => Q .non H', rt := Q } (start ["levels", "ends", "classes", "current", "result", "level", "pairs", "first", "below", "visited", "row", "number", "low", "high", "left", "right", "last"] vs) H := by
  obtain ⟨pl, pe, ls, es, rfl, ⟨xs, hx, hL⟩, hE, ok, sm, wp, k⟩ := h
  have hx : SqA K H pl (xs.map V.ref) := hx
  walk_at "gx"
  refine ⟨pl, pe, ls, es, rfl, ⟨xs, hx, hL⟩, hE, ok, sm, fun qc cs H1 e1 nq hqc hC => ?_⟩
  obtain ⟨c0, hc0, hh0⟩ := lcg_at hC (cls_get ls es 0 (Nat.zero_le _))
  have wp' := wp
  rw [← trees_len] at wp'
  have h00 := intsN_get (num_get (gT_get wp'))
  walk_at "gx"
  refine .of (L2.atI_nat (j := 0) (by rw [List.getElem?_map, hc0]; rfl)) ?_
  have hh0 : H1 c0 = some (.lst (intsN (num (trees ls es)))) := hh0
  walk_at "gx"
  refine .of (L2.atI_nat (j := 0) h00) ?_
  walk_at "gx"
  refine ⟨fun cu ncu => ?_⟩
  walk_at "gx"
  refine ⟨fun rs nrs => ?_⟩
  have ec := same_new (o := .lst [V.int (ixF (dst (trees ls es)) (gT (trees ls es) 0) : Nat)]) ncu
  have er := same_new (o := .lst []) nrs
  generalize hG : upd (upd H1 cu (.lst [V.int (ixF (dst (trees ls es)) (gT (trees ls es) 0) : Nat)])) rs (.lst []) = G
  have eG : Same H1 G := hG ▸ ec.trans er
  have hcuG : G cu = some (.lst [V.int (ixF (dst (trees ls es)) (gT (trees ls es) 0) : Nat)]) := hG ▸ er _ _ upd_same
  have hrsG : G rs = some (.lst []) := hG ▸ upd_same
  have nrs1 : H1 rs = none := nn_of ec nrs
  have lx := hL.length
  have lcs := hC.length
  rw [cls_len] at lcs
  generalize hF : [gT (trees ls es) 0] = F at *
  have sub : ∀ t ∈ F, t ∈ trees ls es := fun t ht => by rw [← hF] at ht; rw [List.mem_singleton.mp ht]; exact gT_mem wp'
  have ndF : F.Nodup := by rw [← hF]; simp
  have lFi : ∀ i, i ≤ ls.length → (lvF i F).length ≤ 1000000 := fun i hi => lvF_len ok sm.2.1 sm.2.2 sub ndF i hi
  walk_at "gx"
  refine for_enA0 (K := K) (H0 := H) (fun i σ H' => (∃ cu a5 a6 a7 a8 a9 a10 a11 a12 a13 a14 a15, σ = [some (.ref pl), some (.ref pe), some (.ref qc), some (.ref cu), some (.ref rs), a5, a6, a7, a8, a9, a10, a11, a12, a13, a14, a15, none] ∧ H' cu = some (.lst (intsN ((lvF i F).map (ixF (dst (trees (ls.drop i) es))))))) ∧ Same H H' ∧ Same H1 H' ∧ ∃ rows : List Addr, H' rs = some (.lst (rows.map V.ref)) ∧ Paired (LvG true K H') rows ((canL ls.length F).take i))
    hx (e1.trans eG) ⟨⟨_, _, _, _, _, _, _, _, _, _, _, _, rfl, ?_⟩, e1.trans eG, eG, [], hrsG, by rw [List.take_zero]; exact .nil⟩ (fun i σ H' z => z.2.1) ?_ ?_
  · rw [hcuG, ← hF]; rfl
  · rintro i x σ H2 hi ⟨⟨cu2, a5, a6, a7, a8, a9, a10, a11, a12, a13, a14, a15, rfl, hcu2⟩, e0, e2, rows, hrs2, hP⟩
    have il : i < ls.length := by have := (List.getElem?_eq_some_iff.mp hi).1; rw [List.length_map, lx] at this; exact this
    obtain ⟨lv, hlv, rfl⟩ := lay_get hi
    obtain ⟨ps, hps, hl⟩ := lcg_to hL hlv
    have dj := drop_cons hps
    have ok2 := okT.drop i ok
    rw [dj] at ok2
    obtain ⟨d1, g1, h1⟩ := lcg_at hC (cls_get ls es i (Nat.le_of_lt il))
    obtain ⟨d2, g2, h2⟩ := lcg_at hC (cls_get ls es (i + 1) il)
    have h1 : H1 d1 = some (.lst (intsN (num (trees (ls.drop i) es)))) := h1
    have h2 : H1 d2 = some (.lst (intsN (num (trees (ls.drop (i + 1)) es)))) := h2
    rw [dj] at h1 hcu2
    have sub2 := lvF_sub ok sub i (Nat.le_of_lt il)
    rw [dj] at sub2
    have lr := hP.length
    rw [List.length_take, canL_len] at lr
    intro T nT
    have eT := same_new (o := .tup [V.int (i : Int), .ref lv]) nT
    have hrsT := eT _ _ hrs2
    refine ⟨T, _, rfl, SqT.of upd_same, rfl, _, _, rfl, _, _, rfl, rfl, ?_⟩
    refine red_b1 (n := i) (eT _ _ hcu2) (hl.same (e0.trans eT)) ((e2.trans eT) _ _ hqc) g1 g2 ((e2.trans eT) _ _ h1) ((e2.trans eT) _ _ h2) hrsT ok2 sub2 (sm.2.1 _ (List.mem_of_getElem? hps)) (lFi i (Nat.le_of_lt il)) (by have := sm.1; omega) fun cu' rw' y7 y8 y9 y10 y11 y12 y13 y14 y15 H' eX hr hl2 hc hn => ?_
    have e3 : Same H1 H' := SameX.same (e2.trans eT) eX nrs1
    refine ⟨⟨cu', _, _, _, _, _, _, _, _, _, _, _, rfl, by rw [lvF_succ]; exact hc⟩, e1.trans e3, e3, rows ++ [rw'], hr, ?_⟩
    have tk : (canL ls.length F).take (i + 1) = (canL ls.length F).take i ++ [rowF (lvF i F)] := by rw [List.take_add_one, canL_get ls.length F i il]; rfl
    rw [tk]
    exact Paired.snoc (Paired.mapP hP fun _ _ r => LvG.sx (LvG.same r eT) eX hrsT) hl2
  · rintro σ H2 ⟨⟨cu2, a5, a6, a7, a8, a9, a10, a11, a12, a13, a14, a15, rfl, hcu2⟩, e0, e2, rows, hrs2, hP⟩
    rw [List.length_map, lx, List.drop_length] at hcu2
    rw [List.length_map, lx, List.take_of_length_le (by rw [canL_len]; exact Nat.le_refl _)] at hP
    have lr := hP.length
    rw [canL_len] at lr
    walk_at "gx"
    obtain ⟨t0, et⟩ := cls_last ls es
    have hC2 := hC
    rw [et] at hC2
    obtain ⟨cs', cl, rfl, _, hcl⟩ := paired_last hC2
    have hcl : H1 cl = some (.lst (intsN (num (trees [] es)))) := hcl
    have hqc2 := e2 _ _ hqc
    rw [List.map_append] at hqc2
    walk_at "gx"
    refine .of (L2.atI_last _ _) ?_
    walk_at "gx"
    refine ⟨cl, num (trees [] es), rfl, .inl (SqL.of (e2 _ _ hcl)), by rw [num_len, trees_len]; exact sm.2.2, fun dl H3 kvl e3 ndl hdl hfl => ?_⟩
    have hrs3 := e3 _ _ hrs2
    have hcu3 := e3 _ _ hcu2
    walk_at "gx"
    refine ⟨fun ra H4 e4 hra => ?_⟩
    have hcu4 := e4 _ _ hcu3
    have hcu4' : SqA K H4 cu2 ((lvF ls.length F).map fun t => V.int ((ixF (dst (trees [] es)) t : Nat) : Int)) := by
      refine .inl (SqL.of ?_)
      rw [hcu4]; unfold intsN; rw [List.map_map]; rfl
    have subE := lvF_sub ok sub ls.length (Nat.le_refl _)
    rw [List.drop_length] at subE
    have lE := lFi ls.length (Nat.le_refl _)
    walk_at "gx"
    refine lc_dat (lvF ls.length F) _ (fun D t y H' => y = obV t.val) hcu4' (by rw [sizeLine_eq]; omega) (fun D a y H H' l _ h _ => h) ?_ ?_
    · intro D l j t H5 A hD hl hj e5 hA
      refine ⟨rfl, ?_⟩
      have tT := subE t (List.mem_of_getElem? hj)
      have hv1 : valV kvl (.inl (ixF (dst (trees [] es)) t : Nat)) = some (.int (ixF (num (trees [] es)) (ixF (dst (trees [] es)) t) : Nat)) := by
        rw [hfl, if_pos]
        exact List.mem_map_of_mem tT
      have hdl5 := (e4.trans e5) _ _ hdl
      have hE5 := Same.sqa (e0.trans (e3.trans (e4.trans e5))) hE
      walk_at "gx"
      refine DG.n (.inl hdl5) hv1 ?_
      walk_at "gx"
      have g0 := num_first tT
      unfold trees at g0
      obtain ⟨o, ho, et⟩ := lay_get g0
      refine .of (L2.atI_nat (v := obV t.val) (by rw [List.getElem?_map]; unfold trees; rw [ho, et]; rfl)) ?_
      exact hA _ _ (Same.refl _) rfl
    · intro D ys H5 hD hl hP2 e5
      have ey : ys = (canE ls.length F).map obV := by
        unfold canE
        rw [List.map_map]
        have gen : ∀ {as : List BT} {ys : List V}, Paired (fun t y => y = obV t.val) as ys → ys = as.map (obV ∘ BT.val) := by
          intro as ys h
          induction h with
          | nil => rfl
          | cons r _ ih => rw [r, ih]; rfl
        exact gen hP2
      subst ey
      walk_at "gx"
      refine ⟨fun rb H6 e6 hrb => ?_⟩
      walk_at "gx"
      refine ⟨fun r nr => ?_⟩
      have e46 : Same H3 H6 := e4.trans (e5.trans e6)
      have eR := same_new (o := .tup [V.ref ra, .ref rb]) nr
      have e7 := e46.trans eR
      refine k r ra rb _ (e0.trans (e3.trans e7)) (nn_of (e0.trans (e3.trans e46)) nr) upd_same ⟨rows, Same.tup ((e5.trans e6).trans eR) hra, ?_⟩ (Same.tup eR hrb)
      exact Paired.mapP hP fun _ _ r => LvG.same r (e3.trans e7)
end
end S
namespace S
open PySem PySem.Spec PyProof.Rows L2
def t__law_same_2 (K : Frag) (E : XK) : TS :=
    tRet (tOp oIsN (dVar 0) (tC .non))
def t__law_same_1 (K : Frag) (E : XK) : TS :=
    tSeq (dIfS (dCmpT oIsT (dVar 1) (tC (.bl false))) (tRet (tOp oIsT (dVar 0) (tC (.bl false)))) (tNext))
    (stop (t__law_same_2 K E))
def t__law_same (K : Frag) (E : XK) : TS :=
    tSeq (dIfS (dCmpT oIsT (dVar 1) (tC (.bl true))) (tRet (tOp oIsT (dVar 0) (tC (.bl true)))) (tNext))
    (stop (t__law_same_1 K E))
end S
-- fn: _law_same
-- law: k49
-- deps: D0
namespace S
open PySem PySem.Spec PyProof.Rows L2
def sp__law_same (K : Frag) : Sp := fun vs H Q _ => ∃ a b : Option Bool, vs = [obV a, obV b] ∧ Q (.bl (decide (a = b))) H
theorem pure__law_same {K : Frag} (vs : List V) (H : Hp) (Q : VK) (E : XK) (h : sp__law_same K vs H Q E) : t__law_same K E { nx := fun _ H' => Q .non H', rt := Q } (start ["_law_answer", "_law_due"] vs) H := by
  obtain ⟨a, b, rfl, q⟩ := h
  rcases b with _ | _ | _
  · walk_at "gx"
    refine IsT.non ?_
    walk_at "gx"
    refine IsT.non ?_
    walk_at "gx"
    refine ⟨rfl, ?_⟩
    rcases a with _ | _ | _ <;> exact q
  · walk_at "gx"
    refine IsT.bl ?_
    walk_at "gx"
    refine IsT.bl ?_
    walk_at "gx"
    rcases a with _ | _ | _
    · exact IsT.non q
    · exact IsT.bl q
    · exact IsT.bl q
  · walk_at "gx"
    refine IsT.bl ?_
    walk_at "gx"
    rcases a with _ | _ | _
    · exact IsT.non q
    · exact IsT.bl q
    · exact IsT.bl q
end S
namespace S
open PySem PySem.Spec PyProof.Rows L2
def t__law_answers_b1 (K : Frag) (E : XK) : TS :=
    dIfS (dNot (dTest K (dCall (sp__law_same K) (EW E) (tCons (tOp (oIx K) (dVar 0) (dVar 2)) (tCons (tOp (oIx K) (dVar 1) (dVar 2)) (tNil)))))) (tRet (tC (.bl false))) (tNext)
def t__law_answers_2 (K : Frag) (E : XK) : TS :=
    tRet (tC (.bl true))
def t__law_answers_1 (K : Frag) (E : XK) : TS :=
    tSeq (dFor (iRng (tCons (tCB (cLen K) (tCons (dVar 1) (tNil))) (tNil))) (gName 2) (t__law_answers_b1 K E))
    (stop (t__law_answers_2 K E))
def t__law_answers (K : Frag) (E : XK) : TS :=
    tSeq (dIfS (dCmpT (oNe K) (tCB (cLen K) (tCons (dVar 0) (tNil))) (tCB (cLen K) (tCons (dVar 1) (tNil)))) (tRet (tC (.bl false))) (tNext))
    (stop (t__law_answers_1 K E))
end S
-- fn: _law_answers
-- law: k49
-- deps: _law_same_d Lay
namespace S
open PySem PySem.Spec PyProof.Rows L2
def sp__law_answers (K : Frag) : Sp := fun vs H Q _ => ∃ (p q : Addr) (as bs : Ends3), vs = [.ref p, .ref q] ∧ SqA K H p (as.map obV) ∧ SqA K H q (bs.map obV) ∧ bs.length ≤ 1000000 ∧ Q (.bl (decide (as = bs))) H
theorem pure__law_answers {K : Frag} (vs : List V) (H : Hp) (Q : VK) (E : XK) (h : sp__law_answers K vs H Q E) : t__law_answers K E { nx := fun _ H' => Q .non H', rt := Q } (start ["_law_found", "_law_due", "_law_k"] vs) H := by
  obtain ⟨p, q, as, bs, rfl, hp, hq, lB, g⟩ := h
  walk_at "gx"
  rw [List.length_map, List.length_map]
  refine ifn (fun hl => ?_) (fun hl => ?_)
  · rw [decide_eq_false fun z => hl (by rw [z])] at g
    exact g
  have hl : as.length = bs.length := by exact_mod_cast hl
  walk_at "gx"
  rw [List.length_map]
  refine for_rng (fun i σ H' => H' = H ∧ as.take i = bs.take i ∧ ∃ x, σ = [some (.ref p), some (.ref q), x]) ⟨rfl, by simp, none, rfl⟩ ?_ ?_
  · rintro i σ H' hi ⟨rfl, et, x, rfl⟩
    have hi : i < bs.length := by omega
    have ga : as[i]? = some as[i] := List.getElem?_eq_getElem (by omega)
    have gb : bs[i]? = some bs[i] := List.getElem?_eq_getElem hi
    walk_at "gx"
    refine .of (L2.atI_nat (by rw [List.getElem?_map, ga]; rfl)) ?_
    walk_at "gx"
    refine .of (L2.atI_nat (by rw [List.getElem?_map, gb]; rfl)) ?_
    refine ⟨_, _, rfl, ?_⟩
    refine ifn (fun h => ?_) (fun h => ?_)
    · walk_at "gx"
      rw [decide_eq_false fun z => h (by simp only [z])] at g
      exact g
    · exact ⟨rfl, by rw [List.take_add_one, List.take_add_one, ga, gb, et, h], _, rfl⟩
  · rintro σ H' ⟨rfl, et, x, rfl⟩
    walk_at "gx"
    rw [show ((bs.length : Nat) : Int).toNat = bs.length from rfl, List.take_of_length_le (by omega), List.take_of_length_le (Nat.le_refl _)] at et
    rw [decide_eq_true et] at g
    exact g
end S
namespace S
open PySem PySem.Spec PyProof.Rows L2
def t__law_run_b1 (K : Frag) (E : XK) : TS :=
    tAsg (tOp (oIx K) (tOp (oIx K) (tOp (oIx K) (dVar 0) (dVar 4)) (dVar 3)) (tOp (oIx K) (dVar 2) (dVar 4))) (gName 3)
def t__law_run_2 (K : Frag) (E : XK) : TS :=
    tRet (tOp (oIx K) (dVar 1) (dVar 3))
def t__law_run_1 (K : Frag) (E : XK) : TS :=
    tSeq (dFor (iRng (tCons (tCB (cLen K) (tCons (dVar 0) (tNil))) (tNil))) (gName 4) (t__law_run_b1 K E))
    (stop (t__law_run_2 K E))
def t__law_run (K : Frag) (E : XK) : TS :=
    tSeq (tAsg (tC (.int 0)) (gName 3))
    (stop (t__law_run_1 K E))
end S
-- fn: _law_run
-- law: k49
-- deps: Tbl
namespace S
open PySem PySem.Spec PyProof.Rows L2
/-- a list of bits -/
def bitV (b : Bool) : V := .int (if b then 1 else 0)
/-- the node reached from node n -/
def nodeR : Lvs → Nat → List Bool → Nat
  | [], n, _ => n
  | _ :: _, n, [] => n
  | ps :: ls, n, b :: bs => nodeR ls (if b then (ps.getD n (0, 0)).2 else (ps.getD n (0, 0)).1) bs
theorem nodeR_lt {es : Ends3} : ∀ {ls : Lvs} {n : Nat} {bs : List Bool}, okT ls es → n < wid ls es → bs.length = ls.length → nodeR ls n bs < es.length
  | [], _, _, _, h, _ => h
  | ps :: ls, n, [], _, _, e => nomatch e
  | ps :: ls, n, b :: bs, ok, h, e => by
    have h : n < ps.length := h
    have hp : ps.getD n (0, 0) ∈ ps := by rw [List.getD_eq_getElem?_getD, List.getElem?_eq_getElem h]; exact List.getElem_mem h
    obtain ⟨o1, o2⟩ := ok.1 _ hp
    refine nodeR_lt (ls := ls) ok.2 ?_ (by simpa using e)
    cases b
    · exact o1
    · exact o2
theorem nodeR_run {es : Ends3} : ∀ {ls : Lvs} {n : Nat} {bs : List Bool}, okT ls es → n < wid ls es → bs.length = ls.length → (gT (trees ls es) n).run bs = es.getD (nodeR ls n bs) none
  | [], n, bs, _, h, e => by
    have h : n < es.length := h
    unfold gT trees
    rw [List.getD_eq_getElem?_getD, List.getElem?_map, List.getElem?_eq_getElem h]
    show es[n] = es.getD n none
    rw [List.getD_eq_getElem?_getD, List.getElem?_eq_getElem h]; rfl
  | ps :: ls, n, [], _, _, e => nomatch e
  | ps :: ls, n, b :: bs, ok, h, e => by
    have h : n < ps.length := h
    have g : ps.getD n (0, 0) = ps[n] := by rw [List.getD_eq_getElem?_getD, List.getElem?_eq_getElem h]; rfl
    have hp : ps[n] ∈ ps := List.getElem_mem h
    obtain ⟨o1, o2⟩ := ok.1 _ hp
    have et : gT (trees (ps :: ls) es) n = .nd (gT (trees ls es) ps[n].1) (gT (trees ls es) ps[n].2) := by
      show gT (ps.map _) n = _
      unfold gT
      rw [List.getD_eq_getElem?_getD, List.getElem?_map, List.getElem?_eq_getElem h]; rfl
    rw [et]
    show (if b then _ else _) = es.getD (nodeR ls (if b then (ps.getD n (0, 0)).2 else (ps.getD n (0, 0)).1) bs) none
    rw [g]
    cases b
    · exact nodeR_run ok.2 o1 (by simpa using e)
    · exact nodeR_run ok.2 o2 (by simpa using e)
theorem nodeR_step : ∀ {ls : Lvs} {n : Nat} {bs : List Bool} {i : Nat} {ps : List (Nat × Nat)} {b : Bool}, ls[i]? = some ps → bs[i]? = some b → nodeR (ls.take (i + 1)) n (bs.take (i + 1)) = (if b then (ps.getD (nodeR (ls.take i) n (bs.take i)) (0, 0)).2 else (ps.getD (nodeR (ls.take i) n (bs.take i)) (0, 0)).1)
  | [], _, _, _, _, _, h, _ => by simp at h
  | _ :: _, _, [], _, _, _, _, h => by simp at h
  | p :: ls, n, c :: bs, 0, ps, b, h1, h2 => by
    simp only [List.getElem?_cons_zero, Option.some.injEq] at h1 h2
    subst h1; subst h2
    simp [nodeR]
  | p :: ls, n, c :: bs, i + 1, ps, b, h1, h2 => by
    rw [List.getElem?_cons_succ] at h1 h2
    exact nodeR_step (ls := ls) h1 h2
theorem nodeR_wid {es : Ends3} : ∀ {ls : Lvs} {n : Nat} {bs : List Bool} (i : Nat), okT ls es → n < wid ls es → bs.length = ls.length → i ≤ ls.length → nodeR (ls.take i) n (bs.take i) < wid (ls.drop i) es
  | _, _, _, 0, _, h, _, _ => by simpa [nodeR] using h
  | [], _, _, i + 1, _, _, _, hi => absurd hi (Nat.not_succ_le_zero _)
  | ps :: ls, n, [], i + 1, _, _, e, _ => nomatch e
  | ps :: ls, n, b :: bs, i + 1, ok, h, e, hi => by
    have h : n < ps.length := h
    have hp : ps.getD n (0, 0) ∈ ps := by rw [List.getD_eq_getElem?_getD, List.getElem?_eq_getElem h]; exact List.getElem_mem h
    obtain ⟨o1, o2⟩ := ok.1 _ hp
    refine nodeR_wid (ls := ls) i ok.2 ?_ (by simpa using e) (Nat.le_of_succ_le_succ hi)
    cases b
    · exact o1
    · exact o2
def sp__law_run (K : Frag) : Sp := fun vs H Q _ => ∃ (pl pe pb : Addr) (ls : Lvs) (es : Ends3) (bs : List Bool), vs = [.ref pl, .ref pe, .ref pb] ∧ TbG false K H pl ls ∧ SqA K H pe (es.map obV) ∧ SqA K H pb (bs.map bitV) ∧ okT ls es ∧ 0 < wid ls es ∧ bs.length = ls.length ∧ ls.length ≤ 1000000 ∧ Q (obV ((gT (trees ls es) 0).run bs)) H
theorem pure__law_run {K : Frag} (vs : List V) (H : Hp) (Q : VK) (E : XK) (h : sp__law_run K vs H Q E) : t__law_run K E { nx := fun _ H' => Q .non H', rt := Q } (start ["_law_levels", "_law_ends", "_law_bits", "_law_node", "_law_k"] vs) H := by
  obtain ⟨pl, pe, pb, ls, es, bs, rfl, ⟨xs, hx, hL⟩, hE, hB, ok, w0, lb, lL, g⟩ := h
  have hx : SqA K H pl (xs.map V.ref) := hx
  have lx := hL.length
  walk_at "gx"
  rw [List.length_map]
  refine for_rng (fun i σ H' => H' = H ∧ ∃ x, σ = [some (.ref pl), some (.ref pe), some (.ref pb), some (.int (nodeR (ls.take i) 0 (bs.take i) : Nat)), x]) ⟨rfl, none, rfl⟩ ?_ ?_
  · rintro i σ H' hi ⟨rfl, x, rfl⟩
    have hi : i < ls.length := by omega
    have g1 : ls[i]? = some ls[i] := List.getElem?_eq_getElem hi
    have g2 : bs[i]? = some bs[i] := List.getElem?_eq_getElem (by omega)
    obtain ⟨lv, hlv, ts, hts, hrow⟩ := lcg_at hL g1
    have hts : SqA K H' lv (ts.map V.ref) := hts
    have nw := nodeR_wid i ok w0 lb (Nat.le_of_lt hi)
    rw [drop_cons g1] at nw
    have nw : nodeR (ls.take i) 0 (bs.take i) < ls[i].length := nw
    have g3 : ls[i][nodeR (ls.take i) 0 (bs.take i)]? = some ls[i][nodeR (ls.take i) 0 (bs.take i)] := List.getElem?_eq_getElem nw
    obtain ⟨t, ht, hr⟩ := lcg_at hrow g3
    have hr : SqT K H' t [.int (ls[i][nodeR (ls.take i) 0 (bs.take i)].1 : Int), .int (ls[i][nodeR (ls.take i) 0 (bs.take i)].2 : Int)] := hr
    have es := nodeR_step (n := 0) g1 g2
    rw [show ls[i].getD (nodeR (ls.take i) 0 (bs.take i)) (0, 0) = ls[i][nodeR (ls.take i) 0 (bs.take i)] by rw [List.getD_eq_getElem?_getD, g3]; rfl] at es
    walk_at "gx"
    refine .of (L2.atI_nat (by rw [List.getElem?_map, hlv]; rfl)) ?_
    walk_at "gx"
    refine .of (L2.atI_nat (by rw [List.getElem?_map, ht]; rfl)) ?_
    walk_at "gx"
    refine .of (L2.atI_nat (by rw [List.getElem?_map, g2]; rfl)) ?_
    unfold bitV
    walk_at "gx"
    refine .of (v := .int (nodeR (ls.take (i + 1)) 0 (bs.take (i + 1)) : Nat)) ?_ ⟨rfl, _, rfl⟩
    rw [es]
    cases bs[i] <;> rfl
  · rintro σ H' ⟨rfl, x, rfl⟩
    rw [show ((xs.length : Nat) : Int).toNat = ls.length from by omega, List.take_of_length_le (Nat.le_refl _), List.take_of_length_le (by omega)]
    have nl := nodeR_lt ok w0 lb
    rw [nodeR_run ok w0 lb] at g
    walk_at "gx"
    refine .of (L2.atI_nat (by rw [List.getElem?_map, List.getElem?_eq_getElem nl]; rfl)) ?_
    rw [List.getD_eq_getElem?_getD, List.getElem?_eq_getElem nl] at g
    exact g
end S
-- deps: Bm Bitmap_ops Sl Lc
/-! ## bitmaps told by their rows, their ends among known ones -/
namespace S
open PySem PySem.Spec PyProof.Rows L2
def Bs (K : Frag) (H : Hp) (x : Addr) (n : Int) (f : Int → Bool) (S : List Int) : Prop := ∃ es, Bm K H x n es ∧ (∀ z ∈ es, z ∈ S) ∧ ∀ row, 0 ≤ row → row < n → inB es row = f row
theorem Bs.same {K : Frag} {H H' : Hp} {x : Addr} {n : Int} {f : Int → Bool} {S : List Int} (h : Bs K H x n f S) (e : Same H H') : Bs K H' x n f S := let ⟨es, a, b, c⟩ := h; ⟨es, a.same e, b, c⟩
theorem Bs.x {K : Frag} {H H' : Hp} {x st : Addr} {n : Int} {f : Int → Bool} {S : List Int} {l : List V} (h : Bs K H x n f S) (e : SameX st H H') (hst : H st = some (.lst l)) : Bs K H' x n f S := let ⟨es, a, b, c⟩ := h; ⟨es, a.x e hst, b, c⟩
theorem Bs.slt {K : Frag} {H : Hp} {x : Addr} {n : Int} {f : Int → Bool} {S : List Int} (h : Bs K H x n f S) : ∃ dx vs, SlX.Slt H x (He.ga K "Bitmap") dx vs := let ⟨_, ⟨_, _, _, dx, _, a, _⟩, _⟩ := h; ⟨dx, _, a⟩
section
variable {K : Frag} {H : Hp} {x y : Addr} {n : Int} {f g : Int → Bool} {S : List Int} {Q : VK} {E : XK}
end
/-! ### lists of them -/
/-! ### sums, negatives -/
end S
-- deps: Sl Bs
/-! ## numbers of bits, further -/
namespace S
open PySem PySem.Spec PyProof.Rows L2
end S
namespace S
open PySem PySem.Spec PyProof.Rows L2
end S
-- fn: narrowed
-- law: k12
-- own: Eq=Bitmap
-- deps: Sl
namespace S
open PySem PySem.Spec PyProof.Rows L2
end S
namespace S
open PySem PySem.Spec PyProof.Rows L2
def t__law_draw_7 (K : Frag) (E : XK) : TS :=
    tRet (tOp oMod (tCB cInt (tCons (dVar 6) (tNil))) (dVar 2))
def t__law_draw_6 (K : Frag) (E : XK) : TS :=
    tSeq (tAsg (tOp oMod (tCB cInt (tCons (tOp oMulA (dVar 6) (dVar 6)) (tNil))) (tC (.int 999983))) (gName 6))
    (stop (t__law_draw_7 K E))
def t__law_draw_5 (K : Frag) (E : XK) : TS :=
    tSeq (tAsg (tOp oMod (tCB cInt (tCons (tOp (oAdd K) (tOp oMulA (dVar 6) (dVar 6)) (dVar 4)) (tNil))) (tC (.int 1000003))) (gName 6))
    (stop (t__law_draw_6 K E))
def t__law_draw_4 (K : Frag) (E : XK) : TS :=
    tSeq (tAsg (tOp oMod (tCB cInt (tCons (tOp (oAdd K) (tOp oMulA (dVar 4) (tOp (oAdd K) (tOp (oAdd K) (tC (.int 48271)) (tOp oMulA (tC (.int 7919)) (tOp (oIx K) (dVar 1) (tC (.int 1))))) (tOp oMulA (tC (.int 104729)) (tOp (oIx K) (dVar 1) (tC (.int 0)))))) (tOp oMulA (tC (.int 611953)) (tOp (oIx K) (dVar 1) (tC (.int 3))))) (tNil))) (tC (.int 2147483647))) (gName 6))
    (stop (t__law_draw_5 K E))
def t__law_draw_3 (K : Frag) (E : XK) : TS :=
    tSeq (dIfS (dCmpT (oEq K) (tOp (oIx K) (dVar 1) (tC (.int 3))) (tC (.int 2))) (tSeq (tAsg (tOp oFdiv (dVar 4) (tC (.int 1000))) (gSub (dVar 1) (tC (.int 2)) oSet))
    (tSeq (dIfS (dCmpT (oEq K) (tOp (oIx K) (dVar 1) (tC (.int 2))) (tC (.int 0))) (tAsg (tC (.int 0)) (gSub (dVar 1) (tC (.int 1)) oSet)) (tNext))
    (tSeq (tAsg (tOp oMod (tCB cInt (tCons (dVar 4) (tNil))) (tC (.int 1000))) (gName 5))
    (tRet (tOp oMod (tCB cInt (tCons (dVar 5) (tNil))) (dVar 2)))))) (tNext))
    (stop (t__law_draw_4 K E))
def t__law_draw_2 (K : Frag) (E : XK) : TS :=
    tSeq (tAsg (tCB cInt (tCons (tOp (oIx K) (dVar 1) (tC (.int 2))) (tNil))) (gName 4))
    (stop (t__law_draw_3 K E))
def t__law_draw_1 (K : Frag) (E : XK) : TS :=
    tSeq (tAsg (tOp oSub (tOp (oIx K) (dVar 1) (tC (.int 1))) (tC (.int 1))) (gSub (dVar 1) (tC (.int 1)) oSet))
    (stop (t__law_draw_2 K E))
def t__law_draw (K : Frag) (E : XK) : TS :=
    tSeq (dIfS (dCmpT (oEq K) (tOp (oIx K) (dVar 1) (tC (.int 1))) (tC (.int 0))) (tSeq (tAsg (tOp (oIx K) (dVar 1) (tC (.int 0))) (gName 3))
    (tSeq (tAsg (tOp (oAdd K) (dVar 3) (tC (.int 1))) (gSub (dVar 1) (tC (.int 0)) oSet))
    (tSeq (dIfS (dCmpT oGe (dVar 3) (tCB (cLen K) (tCons (dVar 0) (tNil)))) (tRet (tC (.int 0))) (tNext))
    (tSeq (tAsg (tCB cAbs (tCons (tOp (oIx K) (dVar 0) (dVar 3)) (tNil))) (gSub (dVar 1) (tC (.int 2)) oSet))
    (tSeq (tAsg (tCB cInt (tCons (tOp oLt (tOp (oIx K) (dVar 0) (dVar 3)) (tC (.int 0))) (tNil))) (gSub (dVar 1) (tC (.int 3)) oSet))
    (tSeq (tAsg (tC (.int 12)) (gSub (dVar 1) (tC (.int 1)) oSet))
    (dIfS (dCmpT oGe (tOp (oIx K) (dVar 1) (tC (.int 2))) (tOp oPow (tC (.int 10)) (tC (.int 18)))) (tSeq (tAsg (tC (.int 60)) (gSub (dVar 1) (tC (.int 1)) oSet))
    (tAsg (tC (.int 2)) (gSub (dVar 1) (tC (.int 3)) oSet))) (tNext)))))))) (tNext))
    (stop (t__law_draw_1 K E))
end S
-- fn: _law_draw
-- law: k03
-- deps: D0
namespace S
open PySem PySem.Spec PyProof.Rows L2
theorem pure__law_draw {K : Frag} (vs : List V) (H : Hp) (Q : VK) (E : XK) (h : sp__law_draw K vs H Q E) : t__law_draw K E { nx := fun _ H' => Q .non H', rt := Q } (start ["_law_script", "_law_state", "_law_base", "_law_here", "_law_number", "_law_digit", "_law_mixed"] vs) H := by
  obtain ⟨a, st, base, rfl, ⟨⟨ns, hscr⟩, l, hl, A, B, N, k, rfl, hA, hN, hd⟩, hb, q⟩ := h

  have hsl : ∀ H1, SameX st H H1 → SqL K H1 a (ns.map V.int) := fun H1 e => (hscr.x e).sl
  have fin : ∀ (x : Int) (l : List V) (H1 : Hp), SameX st H H1 → H1 st = some (.lst l) → DrawSt l → Q (.int (x % base)) H1 := fun x l H1 e h d =>
    q _ _ (Int.emod_nonneg _ (by omega)) (Int.emod_lt_of_pos _ hb) ⟨⟨ns, hscr.x e⟩, l, h, d⟩ e
  have tail : ∀ (A B N k : Int) (w : Option V) (H' : Hp), 0 ≤ A → 0 ≤ N → (k = 2 ∨ N < 10 ^ 18) → SameX st H H' → H' st = some (.lst [.int A, .int B, .int N, .int k]) →
      t__law_draw_1 K E { nx := fun _ H' => Q .non H', rt := Q } [some (.ref a), some (.ref st), some (.int base), w, none, none, none] H' := by
    intro A B N k w H' hA hN hk hs hl
    have h1000 : 0 ≤ N / 1000 := Int.ediv_nonneg hN (by decide)
    walk_at "gx"
    refine ifd (fun hk2 => ?_) (fun hk2 => ?_)
    · walk_at "gx"
      refine ifd (fun hz => ?_) (fun hz => ?_)
      · walk_at "gx"
        exact fin _ _ _ (hs.trans (SameX.upd.trans (SameX.upd.trans SameX.upd))) upd_same ⟨_, _, _, _, rfl, hA, h1000, .inl rfl⟩
      · walk_at "gx"
        exact fin _ _ _ (hs.trans (SameX.upd.trans SameX.upd)) upd_same ⟨_, _, _, _, rfl, hA, h1000, .inr (.inl hk2)⟩
    · have hN2 : N < 10 ^ 18 := by omega
      walk_at "gx"
      exact fin _ _ _ (hs.trans SameX.upd) upd_same ⟨_, _, _, _, rfl, hA, hN, .inr (.inr hN2)⟩
  walk_at "go"
  refine ifd (fun hB => ?_) (fun hB => ?_)
  · walk_at "go"
    rw [List.length_map]
    refine ifd (fun hlen => ?_) (fun hlen => ?_)
    · exact q 0 _ (Int.le_refl 0) hb ⟨⟨ns, hscr.x SameX.upd⟩, _, upd_same, _, _, _, _, rfl, by omega, hN, hd⟩ SameX.upd
    · obtain ⟨x, hx⟩ := at_ints (ns := ns) hA (by omega)
      walk_at "go"
      refine ifd (fun hbig => ?_) (fun hbig => ?_)
      · walk_at "go"
        exact ⟨tail _ _ _ _ _ _ (by omega) (by omega) (.inl rfl) (SameX.upd.trans (SameX.upd.trans (SameX.upd.trans (SameX.upd.trans (SameX.upd.trans SameX.upd))))) upd_same⟩
      · have hb2 : ¬ ((10 : Int) ^ 18 ≤ x.natAbs) := hbig
        exact ⟨tail _ _ _ _ _ _ (by omega) (by omega) (.inr (by omega)) (SameX.upd.trans (SameX.upd.trans (SameX.upd.trans SameX.upd))) upd_same⟩
  · exact ⟨tail A B N k _ H hA hN (by omega) (SameX.refl _ _) hl⟩
end S
namespace S
open PySem PySem.Spec PyProof.Rows L2
end S
-- fn: _law_wide
-- law: k03
-- deps: D0
namespace S
open PySem PySem.Spec PyProof.Rows L2
end S
namespace S
open PySem PySem.Spec PyProof.Rows L2
end S
-- fn: _law_ends
-- law: k03
-- deps: D0 _law_wide
namespace S
open PySem PySem.Spec PyProof.Rows L2
end S
namespace S
open PySem PySem.Spec PyProof.Rows L2
end S
-- fn: _law_places
-- law: k12
-- deps: Sl _law_draw _law_ends
namespace S
open PySem PySem.Spec PyProof.Rows L2
theorem SameX.none {st : Addr} {H H' : Hp} {p : Addr} (e : SameX st H H') (h : H' p = none) (n : p ≠ st) : H p = none := by
  cases x : H p with
  | none => rfl
  | some o => rw [e _ _ x n] at h; cases h
end S
namespace S
open PySem PySem.Spec PyProof.Rows L2
end S
-- fn: Column.__init__
-- law: k15
-- own: BitAnd=Bitmap
-- deps: Tw narrowed Bs Lc Bitmap_init _law_places
namespace S
open PySem PySem.Spec PyProof.Rows L2
end S
namespace S
open PySem PySem.Spec PyProof.Rows L2
end S
-- fn: Bitmap.__contains__
-- law: k01
-- deps: Bm _law_in
namespace S
open PySem PySem.Spec PyProof.Rows L2
end S
namespace S
open PySem PySem.Spec PyProof.Rows L2
end S
namespace S
open PySem PySem.Spec PyProof.Rows L2
end S
namespace S
open PySem PySem.Spec PyProof.Rows L2
end S
-- fn: width_for bit_of weight_of
-- law: k15
-- deps: Tw Bitmap_contains
namespace S
open PySem PySem.Spec PyProof.Rows L2
def vO (v : Option Int) : V := match v with
  | none => .non
  | some i => .int i
end S
namespace S
open PySem PySem.Spec PyProof.Rows L2
end S
-- fn: _law_rows_of
-- law: k12
-- deps: Sl _law_places
namespace S
open PySem PySem.Spec PyProof.Rows L2
theorem SameX.stay {K : Frag} {st p : Addr} {H H' : Hp} {l : List V} (e : SameX st H H') (n : p ≠ st) (hst : H st = some (.lst l)) : Stay K p H H' := fun _ => ⟨fun h => e.seq h n, fun h => e.tup h hst⟩
end S
namespace S
open PySem PySem.Spec PyProof.Rows L2
end S
-- fn: bitmap_of
-- law: k15
-- deps: width_for Lc Bitmap_init _law_places _law_rows_of
namespace S
open PySem PySem.Spec PyProof.Rows L2
theorem paired_get {α β : Type} {R : α → β → Prop} : ∀ {as : List α} {bs : List β} {i : Nat} {b : β}, Paired R as bs → bs[i]? = some b → ∃ a, as[i]? = some a ∧ R a b
  | _, _, 0, b, .cons r _, h => by
    have e := Option.some.inj h
    subst e
    exact ⟨_, rfl, r⟩
  | _, _, i + 1, b, .cons _ h2, h => by
    obtain ⟨a, e, r⟩ := paired_get (i := i) h2 (by simpa using h)
    exact ⟨a, by simpa using e, r⟩
def sums {α : Type} : Int → List (Int × α) → List Int
  | _, [] => []
  | a, (l, _) :: r => a :: sums (a + l) r
end S
namespace S
open PySem PySem.Spec PyProof.Rows L2
end S
-- fn: Column.of_runs
-- law: k15
-- deps: Column_init bitmap_of width_for
namespace S
open PySem PySem.Spec PyProof.Rows L2
/-- [e for x, y in xs]: of pairs known ahead -/
theorem lc_tup {α : Type} {K : Frag} {p : Addr} {i k : Nat} {te : TE} {vs : List Nat} {σ : L2.St} {H1 : Hp} {Q : VK} {ys : List V} (as : List α) (f1 f2 : α → V) (R : Addr → α → V → Hp → Prop) (hx : SqA K H1 p ys) (hP : Paired (fun r y => ∃ a, y = .ref a ∧ SqT K H1 a [f1 r, f2 r]) as ys) (hz : as.length < sizeLine)
    (mono : ∀ D a y H H' l, H D = some (.lst l) → R D a y H → SameX D H H' → R D a y H')
    (hs : ∀ (D : Addr) (l : List V) (j : Nat) (a : α) (H : Hp) (A : V → Hp → Prop), H1 D = none → H D = some (.lst l) → as[j]? = some a → Same H1 H → (∀ y H', Same H H' → R D a y H' → A y H') → wipe (((wipe σ vs).set i (some (f1 a))).set k (some (f2 a))) vs = wipe σ vs ∧ te (((wipe σ vs).set i (some (f1 a))).set k (some (f2 a))) H A)
    (hd : ∀ D zs H', H1 D = none → H' D = some (.lst zs) → Paired (fun a y => R D a y H') as zs → Same H1 H' → Q (.ref D) H') :
    Walk K H1 p (Wr (LcGo (gTup K 2 (gCons (gName i) (gCons (gName k) gNil))) tYes te vs σ Q)) := by
  have hlen0 := Paired.length hP
  refine lc_seq hx fun D hD => ⟨fun j H => ∃ zs, H D = some (.lst zs) ∧ Paired (fun a y => R D a y H) (as.take j) zs ∧ Same H1 H, ⟨[], upd_same, .nil, same_new hD⟩, fun i H _ ⟨_, _, _, e⟩ ys => ⟨e.seq, Same.tup e⟩, ?_, fun H ⟨ys, h1, h2, e⟩ => hd D ys H hD h1 (by rw [← hlen0, List.take_length] at h2; exact h2) e⟩
  rintro j x H hi ⟨zs, h1, h2, e⟩
  obtain ⟨a, hj, ad, rfl, hT⟩ := paired_get hP hi
  have hil : j < as.length := (List.getElem?_eq_some_iff.mp hj).1
  have hlen : zs.length ≤ j := by
    rw [← h2.length, List.length_take]; exact Nat.min_le_left _ _
  obtain ⟨w, q⟩ := hs D zs j a H (fun y H4 => ∃ acc, H4 D = some (.lst acc) ∧ acc.length < sizeLine ∧ ∃ ys, upd H4 D (.lst (acc ++ [y])) D = some (.lst ys) ∧ Paired (fun a y' => R D a y' (upd H4 D (.lst (acc ++ [y])))) (as.take (j + 1)) ys ∧ Same H1 (upd H4 D (.lst (acc ++ [y])))) hD h1 hj e fun y H' e2 r => by
    have si : SameX D H' (L2.upd H' D (.lst (zs ++ [y]))) := SameX.upd
    refine ⟨zs, e2 _ _ h1, by omega, zs ++ [y], upd_same, ?_, fun b o hb => ?_⟩
    · rw [List.take_succ, hj]
      exact Paired.snoc (Paired.mapP h2 fun a b r => mono _ _ _ _ _ _ h1 r (Same.thenX e2 si)) (mono _ _ _ _ _ _ (e2 _ _ h1) r si)
    · rw [upd_ne (ne_of_none hb hD)]
      exact e2 _ _ (e _ _ hb)
  refine ⟨ad, [f1 a, f2 a], rfl, Same.tup e hT, rfl, _, _, rfl, _, _, rfl, rfl, w, ?_⟩
  unfold tYes
  dsimp only
  rw [if_pos rfl]
  exact q
end S
namespace S
open PySem PySem.Spec PyProof.Rows L2
end S
-- fn: Column.of_values
-- law: k15
-- deps: Column_of_runs
namespace S
open PySem PySem.Spec PyProof.Rows L2
def ones (L : List (Option Int)) : List (Int × Option Int) := L.map fun v => (1, v)
end S
namespace S
open PySem PySem.Spec PyProof.Rows L2
end S
-- fn: _law_number
-- law: k15
-- deps: D0 D1 _law_draw _law_wide
namespace S
open PySem PySem.Spec PyProof.Rows L2
end S
namespace S
open PySem PySem.Spec PyProof.Rows L2
end S
-- fn: _law_value
-- law: k15
-- deps: _law_number width_for Tw Column_of_runs
namespace S
open PySem PySem.Spec PyProof.Rows L2
end S
-- deps: D0 D1
namespace S
open PySem PySem.Spec PyProof.Rows L2
theorem dp_bls {K : Frag} {H : Hp} : ∀ ns : List Bool, DpAll K H (ns.map V.bl) (ns.map PyData.bool)
  | [] => .nil
  | n :: r => .cons (.bl n) (dp_bls r)
theorem can_bls : ∀ ns : List Bool, PyData.canLayAll0 (ns.map PyData.bool) = true
  | [] => rfl
  | n :: r => by
    show (PyData.canLay0 (.bool n) && PyData.canLayAll0 (r.map PyData.bool)) = true
    rw [can_bls r]; rfl
theorem dep_bls : ∀ ns : List Bool, PyData.depthAll (ns.map PyData.bool) = 0
  | [] => rfl
  | n :: r => by
    show max (PyData.depth (.bool n)) (PyData.depthAll (r.map PyData.bool)) = 0
    rw [dep_bls r]; rfl
theorem shp_bls (ns : List Bool) : SeqAt.shaped (.list (ns.map PyData.bool)) = true := by
  unfold SeqAt.shaped
  have e1 : PyData.canLay0 (.list (ns.map PyData.bool)) = true := can_bls ns
  have e2 : PyData.depth (.list (ns.map PyData.bool)) = 1 := by show PyData.depthAll _ + 1 = 1; rw [dep_bls]
  rw [e1, e2]; rfl
theorem eqv_bls : ∀ xs ys : List Bool, PyData.eqvAll (xs.map PyData.bool) (ys.map PyData.bool) = decide (xs = ys)
  | [], [] => rfl
  | [], _ :: _ => by simp [PyData.eqvAll]
  | _ :: _, [] => by simp [PyData.eqvAll]
  | x :: xs, y :: ys => by
    show (PyData.eqv (.bool x) (.bool y) && PyData.eqvAll (xs.map PyData.bool) (ys.map PyData.bool)) = _
    rw [eqv_bls xs ys]
    have e : PyData.eqv (.bool x) (.bool y) = decide (x = y) := by cases x <;> cases y <;> rfl
    rw [e]
    by_cases h : x = y <;> by_cases h2 : xs = ys <;> simp [h, h2]
theorem eqd_bb {K : Frag} {H : Hp} {a b : Addr} {xs ys : List Bool} {k : Bool → Prop} (h : SqL K H a (xs.map V.bl)) (h2 : SqL K H b (ys.map V.bl)) (q : k (decide (xs = ys))) : EqD K H (.ref a) (.ref b) k :=
  ⟨_, _, .lst h (dp_bls xs), .lst h2 (dp_bls ys), shp_bls xs, shp_bls ys, by
    have e : PyData.eqv (.list (xs.map PyData.bool)) (.list (ys.map PyData.bool)) = decide (xs = ys) := eqv_bls xs ys
    rw [e]; exact q⟩
end S
namespace S
open PySem PySem.Spec PyProof.Rows L2
end S
namespace S
open PySem PySem.Spec PyProof.Rows L2
end S
-- fn: number_at Column.slice_at
-- law: k15
-- enA: yes
-- in: Bitmap
-- deps: Column_init width_for Bitmap_contains
namespace S
open PySem PySem.Spec PyProof.Rows L2
theorem Bs.congr {K : Frag} {H : Hp} {z : Addr} {n : Int} {f g : Int → Bool} {S : List Int} (h : Bs K H z n f S) (e : ∀ row, 0 ≤ row → row < n → f row = g row) : Bs K H z n g S := let ⟨es, a, b, c⟩ := h; ⟨es, a, b, fun row r0 r1 => by rw [c row r0 r1, e row r0 r1]⟩
end S
-- law: k15
-- deps: Column_of_values _law_value D0 D1 eqd_bb Column_at
namespace S
open PySem PySem.Spec PyProof.Rows L2
/-! lists of numbers, None for none -/
def dO (v : Option Int) : PyData := match v with
  | none => .none
  | some i => .int i
theorem dp_os {K : Frag} {H : Hp} : ∀ ns : List (Option Int), DpAll K H (ns.map vO) (ns.map dO)
  | [] => .nil
  | none :: r => .cons .non (dp_os r)
  | some i :: r => .cons (.int i) (dp_os r)
theorem can_os : ∀ ns : List (Option Int), PyData.canLayAll0 (ns.map dO) = true
  | [] => rfl
  | n :: r => by
    show (PyData.canLay0 (dO n) && PyData.canLayAll0 (r.map dO)) = true
    rw [can_os r]; cases n <;> rfl
theorem dep_os : ∀ ns : List (Option Int), PyData.depthAll (ns.map dO) = 0
  | [] => rfl
  | n :: r => by
    show max (PyData.depth (dO n)) (PyData.depthAll (r.map dO)) = 0
    rw [dep_os r]; cases n <;> rfl
theorem eqv_dO (x y : Option Int) : PyData.eqv (dO x) (dO y) = decide (x = y) := by
  cases x with
  | none => cases y <;> rfl
  | some x => cases y with
    | none => rfl
    | some y =>
      show (x == y) = _
      by_cases h : x = y <;> simp [h]
theorem eqv_os : ∀ xs ys : List (Option Int), PyData.eqvAll (xs.map dO) (ys.map dO) = decide (xs = ys)
  | [], [] => rfl
  | [], _ :: _ => by simp [PyData.eqvAll]
  | _ :: _, [] => by simp [PyData.eqvAll]
  | x :: xs, y :: ys => by
    show (PyData.eqv (dO x) (dO y) && PyData.eqvAll (xs.map dO) (ys.map dO)) = _
    rw [eqv_os xs ys, eqv_dO]
    by_cases h : x = y <;> by_cases h2 : xs = ys <;> simp [h, h2]
/-! ### a column's width is the widest of its rows' -/
end S
namespace S
open PySem PySem.Spec PyProof.Rows L2
end S
-- fn: Bitmap.runs
-- law: k08
-- deps: Bm _law_in
namespace S
open PySem PySem.Spec PyProof.Rows L2
end S
-- deps: Cx Bitmap_runs
/-! ## == of lists of tuples of numbers and None -/
namespace S
open PySem PySem.Spec PyProof.Rows L2
def tupD (t : List (Option Int)) : PyData := .tuple (t.map dO)
theorem can_tups : ∀ ts : List (List (Option Int)), PyData.canLayAll0 (ts.map tupD) = true
  | [] => rfl
  | t :: r => by
    show (PyData.canLayAll0 (t.map dO) && PyData.canLayAll0 (r.map tupD)) = true
    rw [can_tups r, can_os]; rfl
theorem dep_tups : ∀ ts : List (List (Option Int)), PyData.depthAll (ts.map tupD) ≤ 1
  | [] => Nat.zero_le _
  | t :: r => by
    show max (PyData.depthAll (t.map dO) + 1) (PyData.depthAll (r.map tupD)) ≤ 1
    have := dep_tups r
    rw [dep_os]; omega
theorem eqv_tups : ∀ xs ys : List (List (Option Int)), PyData.eqvAll (xs.map tupD) (ys.map tupD) = decide (xs = ys)
  | [], [] => rfl
  | [], _ :: _ => by simp [PyData.eqvAll]
  | _ :: _, [] => by simp [PyData.eqvAll]
  | x :: xs, y :: ys => by
    show (PyData.eqv (tupD x) (tupD y) && PyData.eqvAll (xs.map tupD) (ys.map tupD)) = _
    have e : PyData.eqv (tupD x) (tupD y) = decide (x = y) := eqv_os x y
    rw [eqv_tups xs ys, e]
    by_cases h : x = y <;> by_cases h2 : xs = ys <;> simp [h, h2]
end S
-- deps: Tbl Dat
/-! ## == of tables -/
namespace S
open PySem PySem.Spec PyProof.Rows L2
def SqU (u : Bool) (K : Frag) (H : Hp) (a : Addr) (xs : List V) : Prop := if u then SqT K H a xs else SqL K H a xs
def LvE (u : Bool) (K : Frag) (H : Hp) (a : Addr) (ps : List (Nat × Nat)) : Prop := ∃ ts : List Addr, SqU u K H a (ts.map V.ref) ∧ Paired (RowT K H) ts ps
def TbE (u : Bool) (K : Frag) (H : Hp) (p : Addr) (ls : Lvs) : Prop := ∃ xs : List Addr, SqU u K H p (xs.map V.ref) ∧ Paired (LvE u K H) xs ls
def pO (p : Nat × Nat) : List (Option Int) := [some (p.1 : Int), some (p.2 : Int)]
theorem pO_inj {p q : Nat × Nat} (h : pO p = pO q) : p = q := by
  unfold pO at h
  simp only [List.cons.injEq, Option.some.injEq, and_true] at h
  exact Prod.ext (by omega) (by omega)
theorem mapO_inj {ps qs : List (Nat × Nat)} : ps.map pO = qs.map pO ↔ ps = qs := ⟨fun h => (List.map_inj_right fun _ _ => pO_inj).mp h, fun h => by rw [h]⟩
def sqD (u : Bool) (ds : List PyData) : PyData := if u then .tuple ds else .list ds
def lvD (u : Bool) (ps : List (Nat × Nat)) : PyData := sqD u ((ps.map pO).map tupD)
section
variable {K : Frag} {H H' : Hp} {u : Bool}
theorem SqU.same {a : Addr} {xs : List V} (h : SqU u K H a xs) (e : Same H H') : SqU u K H' a xs := by
  cases u
  · exact Same.seq e h
  · exact Same.tup e h
theorem LvE.same {a : Addr} {ps : List (Nat × Nat)} (h : LvE u K H a ps) (e : Same H H') : LvE u K H' a ps := by
  obtain ⟨ts, h1, h2⟩ := h
  exact ⟨ts, h1.same e, Paired.mapP h2 fun _ _ r => RowT.same r e⟩
theorem TbE.same {p : Addr} {ls : Lvs} (h : TbE u K H p ls) (e : Same H H') : TbE u K H' p ls := by
  obtain ⟨ts, h1, h2⟩ := h
  exact ⟨ts, h1.same e, Paired.mapP h2 fun _ _ r => LvE.same r e⟩
theorem LvE.t {a : Addr} {ps : List (Nat × Nat)} (h : LvG true K H a ps) : LvE true K H a ps := h
theorem LvE.a {a : Addr} {ps : List (Nat × Nat)} (h : LvE u K H a ps) : LvG false K H a ps := by
  obtain ⟨ts, h1, h2⟩ := h
  cases u
  · exact ⟨ts, .inl h1, h2⟩
  · exact ⟨ts, .inr h1, h2⟩
theorem TbE.t {p : Addr} {ls : Lvs} (h : TbG true K H p ls) : TbE true K H p ls := h
theorem TbE.a {p : Addr} {ls : Lvs} (h : TbE u K H p ls) : TbG false K H p ls := by
  obtain ⟨ts, h1, h2⟩ := h
  cases u
  · exact ⟨ts, .inl h1, Paired.mapP h2 fun _ _ r => LvE.a r⟩
  · exact ⟨ts, .inr h1, Paired.mapP h2 fun _ _ r => LvE.a r⟩
theorem dp_u {a : Addr} {xs : List V} {ds : List PyData} (h : SqU u K H a xs) (d : DpAll K H xs ds) : Dp K H (.ref a) (sqD u ds) := by
  cases u
  · exact .lst h d
  · exact .tup h d
theorem dp_row : ∀ {ts : List Addr} {ps : List (Nat × Nat)}, Paired (RowT K H) ts ps → DpAll K H (ts.map V.ref) ((ps.map pO).map tupD)
  | _, _, .nil => .nil
  | _, _, .cons (b := p) h r => .cons (.tup h (dp_os (pO p))) (dp_row r)
theorem dp_lvs : ∀ {xs : List Addr} {ls : Lvs}, Paired (LvE u K H) xs ls → DpAll K H (xs.map V.ref) (ls.map (lvD u))
  | _, _, .nil => .nil
  | _, _, .cons (b := p) ⟨_, h1, h2⟩ r => .cons (dp_u h1 (dp_row h2)) (dp_lvs r)
end
theorem can_sq (u : Bool) (ds : List PyData) (h : PyData.canLayAll0 ds = true) : PyData.canLay0 (sqD u ds) = true := by cases u <;> exact h
theorem dep_sq (u : Bool) (ds : List PyData) : PyData.depth (sqD u ds) = PyData.depthAll ds + 1 := by cases u <;> rfl
theorem eqv_sq (u : Bool) (ds es : List PyData) : PyData.eqv (sqD u ds) (sqD u es) = PyData.eqvAll ds es := by cases u <;> rfl
theorem can_lvs (u : Bool) : ∀ ls : Lvs, PyData.canLayAll0 (ls.map (lvD u)) = true
  | [] => rfl
  | t :: r => by
    show (PyData.canLay0 (lvD u t) && PyData.canLayAll0 (r.map (lvD u))) = true
    rw [can_lvs u r, Bool.and_true]
    exact can_sq u _ (can_tups _)
theorem dep_lvs (u : Bool) : ∀ ls : Lvs, PyData.depthAll (ls.map (lvD u)) ≤ 2
  | [] => Nat.zero_le _
  | t :: r => by
    show max (PyData.depth (lvD u t)) (PyData.depthAll (r.map (lvD u))) ≤ 2
    have := dep_lvs u r
    have h2 : PyData.depth (lvD u t) = _ := dep_sq u _
    have h3 := dep_tups (t.map pO)
    omega
theorem eqv_lvs (u : Bool) : ∀ xs ys : Lvs, PyData.eqvAll (xs.map (lvD u)) (ys.map (lvD u)) = decide (xs = ys)
  | [], [] => rfl
  | [], _ :: _ => by simp [PyData.eqvAll]
  | _ :: _, [] => by simp [PyData.eqvAll]
  | x :: xs, y :: ys => by
    show (PyData.eqv (lvD u x) (lvD u y) && PyData.eqvAll (xs.map (lvD u)) (ys.map (lvD u))) = _
    have e : PyData.eqv (lvD u x) (lvD u y) = decide (x = y) := by
      unfold lvD
      rw [eqv_sq, eqv_tups]
      exact decide_eq_decide.mpr mapO_inj
    rw [eqv_lvs u xs ys, e]
    by_cases h : x = y <;> by_cases h2 : xs = ys <;> simp [h, h2]
theorem shp_tb (u : Bool) (ls : Lvs) : SeqAt.shaped (sqD u (ls.map (lvD u))) = true := by
  unfold SeqAt.shaped
  rw [can_sq u _ (can_lvs u ls), dep_sq]
  have := dep_lvs u ls
  rw [decide_eq_true (by omega)]; rfl
theorem eqd_tb {K : Frag} {H : Hp} {u : Bool} {a b : Addr} {ls ms : Lvs} {k : Bool → Prop} (h : TbE u K H a ls) (h2 : TbE u K H b ms) (q : k (decide (ls = ms))) : EqD K H (.ref a) (.ref b) k := by
  obtain ⟨xs, a1, a2⟩ := h
  obtain ⟨ys, b1, b2⟩ := h2
  exact ⟨_, _, dp_u a1 (dp_lvs a2), dp_u b1 (dp_lvs b2), shp_tb u ls, shp_tb u ms, by rw [eqv_sq, eqv_lvs]; exact q⟩
end S
-- deps: D0 D1
/-! ## comprehensions over a range whose items are drawn -/
namespace S
open PySem PySem.Spec PyProof.Rows L2
theorem lc_rngX {K : Frag} {a st : Addr} {m i : Nat} {te : TE} {vs : List Nat} {σ : L2.St} {H1 : Hp} {Q : VK} (P : Nat → V → Prop) (hz : m < sizeLine) (c : Ctx K H1 a st)
    (hs : ∀ (j : Nat) (H : Hp) (A : V → Hp → Prop), j < m → SameX st H1 H → Ctx K H a st → (∀ y H', SameX st H H' → Ctx K H' a st → P j y → A y H') → wipe ((wipe σ vs).set i (some (.int j))) vs = wipe σ vs ∧ te ((wipe σ vs).set i (some (.int j))) H A)
    (hd : ∀ D ys H', H1 D = none → H' D = some (.lst ys) → ys.length = m → (∀ j y, ys[j]? = some y → P j y) → SameX st H1 H' → Ctx K H' a st → Q (.ref D) H') :
    Wr (LcGo (gName i) tYes te vs σ Q) (Itr 0 m) H1 := by
  refine ⟨fun D hD => ?_⟩
  have dst := ctx_ne c hD
  refine lc_range (lo := 0) (Qd := fun H => Q (.ref D) H) (fun j H => ∃ ys, H D = some (.lst ys) ∧ ys.length = j ∧ (∀ k y, ys[k]? = some y → P k y) ∧ SameX st H1 H ∧ Ctx K H a st) ⟨[], upd_same, rfl, fun k y h => by simp at h, Same.x (same_new hD), c.same (same_new hD)⟩ ?_ ?_
  · rintro j H hj ⟨ys, h1, h2, h3, e, cc⟩
    obtain ⟨w, q⟩ := hs j H (fun y H4 => ∃ acc, H4 D = some (.lst acc) ∧ acc.length < sizeLine ∧ ∃ ys, upd H4 D (.lst (acc ++ [y])) D = some (.lst ys) ∧ ys.length = j + 1 ∧ (∀ k y', ys[k]? = some y' → P k y') ∧ SameX st H1 (upd H4 D (.lst (acc ++ [y]))) ∧ Ctx K (upd H4 D (.lst (acc ++ [y]))) a st) hj e cc fun y H' e2 c2 r => by
      refine ⟨ys, e2 _ _ h1 dst, by omega, ys ++ [y], upd_same, by rw [List.length_append, List.length_singleton, h2], fun k y' hk => ?_, SameX.mut (e.trans e2) hD, c2.mut c hD⟩
      by_cases hkj : k < ys.length
      · rw [List.getElem?_append_left hkj] at hk
        exact h3 k y' hk
      · have hk2 : k < ys.length + 1 := by
          obtain ⟨h, _⟩ := List.getElem?_eq_some_iff.mp hk
          rw [List.length_append, List.length_singleton] at h; exact h
        have ek : k = j := by omega
        subst ek
        rw [List.getElem?_append_right (by omega), h2, Nat.sub_self] at hk
        have ey : y = y' := by simpa using hk
        rw [← ey]
        exact r
    show gName i (.int (0 + (j : Int))) (wipe σ vs) H _
    rw [Int.zero_add]
    refine ⟨w, ?_⟩
    unfold tYes
    dsimp only
    rw [if_pos rfl]
    exact q
  · rintro H ⟨ys, h1, h2, h3, e, cc⟩
    exact hd D ys H hD h1 h2 h3 e cc
end S
namespace S
open PySem PySem.Spec PyProof.Rows L2
def t__law_table_b2_1 (K : Frag) (E : XK) : TS :=
    tDrop (dML K mApp (dVar 7) (tCons (dTup K (tCons (dVar 9) (tCons (dCall (sp__law_draw K) (EW E) (tCons (dVar 0) (tCons (dVar 1) (tCons (tOp (oIx K) (dVar 4) (tOp (oAdd K) (dVar 6) (tC (.int 1)))) (tNil))))) (tNil)))) (tNil)))
def t__law_table_b2 (K : Frag) (E : XK) : TS :=
    tSeq (tAsg (dCall (sp__law_draw K) (EW E) (tCons (dVar 0) (tCons (dVar 1) (tCons (tOp (oIx K) (dVar 4) (tOp (oAdd K) (dVar 6) (tC (.int 1)))) (tNil))))) (gName 9))
    (stop (t__law_table_b2_1 K E))
def t__law_table_b1_2 (K : Frag) (E : XK) : TS :=
    tDrop (dML K mApp (dVar 5) (tCons (dVar 7) (tNil)))
def t__law_table_b1_1 (K : Frag) (E : XK) : TS :=
    tSeq (dFor (iRng (tCons (tOp (oIx K) (dVar 4) (dVar 6)) (tNil))) (gName 8) (t__law_table_b2 K E))
    (stop (t__law_table_b1_2 K E))
def t__law_table_b1 (K : Frag) (E : XK) : TS :=
    tSeq (tAsg (dLst (tNil)) (gName 7))
    (stop (t__law_table_b1_1 K E))
def t__law_table_4 (K : Frag) (E : XK) : TS :=
    tRet (dTup K (tCons (dVar 5) (tCons (dLc (iRng (tCons (tOp (oIx K) (dVar 4) (dVar 3)) (tNil))) (gName 6) (tYes) (tOp (oIx K) (dLst (tCons (tC (.bl true)) (tCons (tC (.bl false)) (tCons (tC .non) (tNil))))) (dCall (sp__law_draw K) (EW E0) (tCons (dVar 0) (tCons (dVar 1) (tCons (tC (.int 3)) (tNil)))))) [6]) (tNil))))
def t__law_table_3 (K : Frag) (E : XK) : TS :=
    tSeq (dFor (iRng (tCons (dVar 3) (tNil))) (gName 6) (t__law_table_b1 K E))
    (stop (t__law_table_4 K E))
def t__law_table_2 (K : Frag) (E : XK) : TS :=
    tSeq (tAsg (dLst (tNil)) (gName 5))
    (stop (t__law_table_3 K E))
def t__law_table_1 (K : Frag) (E : XK) : TS :=
    tSeq (tAsg (dLc (iRng (tCons (tOp (oAdd K) (dVar 3) (tC (.int 1))) (tNil))) (gName 6) (tYes) (tOp (oAdd K) (tC (.int 1)) (dCall (sp__law_draw K) (EW E0) (tCons (dVar 0) (tCons (dVar 1) (tCons (tC (.int 6)) (tNil)))))) [6]) (gName 4))
    (stop (t__law_table_2 K E))
def t__law_table (K : Frag) (E : XK) : TS :=
    tSeq (tAsg (dCall (sp__law_draw K) (EW E) (tCons (dVar 0) (tCons (dVar 1) (tCons (tOp (oAdd K) (dVar 2) (tC (.int 1))) (tNil))))) (gName 3))
    (stop (t__law_table_1 K E))
end S
-- fn: _law_table
-- law: k49
-- deps: Eqt Lrx _law_draw D1
namespace S
open PySem PySem.Spec PyProof.Rows L2
/-- real lists of pairs -/
def LvR (K : Frag) (H : Hp) (a : Addr) (ps : List (Nat × Nat)) : Prop := ∃ ts : List Addr, H a = some (.lst (ts.map V.ref)) ∧ Paired (RowT K H) ts ps
structure TbR (K : Frag) (H0 H : Hp) (pl pe : Addr) (ls : Lvs) (es : Ends3) : Prop where
  lv : ∃ xs : List Addr, H pl = some (.lst (xs.map V.ref)) ∧ Paired (LvR K H) xs ls ∧ ∀ x ∈ xs, H0 x = none
  en : H pe = some (.lst (es.map obV))
  nl : H0 pl = none
  ne : H0 pe = none
section
variable {K : Frag} {H0 H H' : Hp} {st : Addr}
theorem LvR.e {a : Addr} {ps : List (Nat × Nat)} (h : LvR K H a ps) : LvE false K H a ps := let ⟨ts, h1, h2⟩ := h; ⟨ts, SqL.of h1, h2⟩
theorem LvR.same {a : Addr} {ps : List (Nat × Nat)} (h : LvR K H a ps) (e : Same H H') : LvR K H' a ps := let ⟨ts, h1, h2⟩ := h; ⟨ts, e _ _ h1, Paired.mapP h2 fun _ _ r => RowT.same r e⟩
theorem LvR.x {a : Addr} {ps : List (Nat × Nat)} {l : List V} (h : LvR K H a ps) (e : SameX st H H') (hs : H st = some (.lst l)) (n : a ≠ st) : LvR K H' a ps := let ⟨ts, h1, h2⟩ := h; ⟨ts, e _ _ h1 n, Paired.mapP h2 fun _ _ r => SameX.tup e r hs⟩
theorem TbR.e {pl pe : Addr} {ls : Lvs} {es : Ends3} (h : TbR K H0 H pl pe ls es) : TbE false K H pl ls := let ⟨xs, h1, h2, _⟩ := h.lv; ⟨xs, SqL.of h1, Paired.mapP h2 fun _ _ r => LvR.e r⟩
theorem TbR.same {pl pe : Addr} {ls : Lvs} {es : Ends3} (h : TbR K H0 H pl pe ls es) (e : Same H H') : TbR K H0 H' pl pe ls es := let ⟨xs, h1, h2, h3⟩ := h.lv; ⟨⟨xs, e _ _ h1, Paired.mapP h2 fun _ _ r => LvR.same r e, h3⟩, e _ _ h.en, h.nl, h.ne⟩
theorem TbR.x {pl pe : Addr} {ls : Lvs} {es : Ends3} {l : List V} (h : TbR K H0 H pl pe ls es) (e : SameX st H H') (hs : H st = some (.lst l)) (n0 : H0 st ≠ none) : TbR K H0 H' pl pe ls es := by
  obtain ⟨⟨xs, h1, h2, h3⟩, h4, h5, h6⟩ := h
  have ne : ∀ x, H0 x = none → x ≠ st := fun x h z => n0 (z ▸ h)
  exact ⟨⟨xs, e _ _ h1 (ne _ h5), paired_mem h2 fun a b ha r => r.x e hs (ne _ (h3 a ha)), h3⟩, e _ _ h4 (ne _ h6), h5, h6⟩
end
/-- sizes of the levels as they were drawn -/
theorem wid_fun {c : Nat → Nat} {es : Ends3} : ∀ {ls : Lvs}, (∀ i ps, ls[i]? = some ps → ps.length = c i) → es.length = c ls.length → ∀ i, i ≤ ls.length → wid (ls.drop i) es = c i
  | [], _, h2, 0, _ => h2
  | [], _, _, _ + 1, hi => absurd hi (Nat.not_succ_le_zero _)
  | ps :: ls, h1, _, 0, _ => h1 0 ps rfl
  | ps :: ls, h1, h2, i + 1, hi => wid_fun (c := fun j => c (j + 1)) (ls := ls) (fun j qs h => h1 (j + 1) qs h) h2 i (Nat.le_of_succ_le_succ hi)
theorem okT_fun {c : Nat → Nat} {es : Ends3} : ∀ {ls : Lvs}, (∀ i ps, ls[i]? = some ps → ps.length = c i) → (∀ i ps, ls[i]? = some ps → ∀ p ∈ ps, p.1 < c (i + 1) ∧ p.2 < c (i + 1)) → es.length = c ls.length → okT ls es
  | [], _, _, _ => True.intro
  | ps :: ls, h1, h2, h3 => by
    refine ⟨fun p hp => ?_, okT_fun (c := fun j => c (j + 1)) (ls := ls) (fun j qs h => h1 (j + 1) qs h) (fun j qs h => h2 (j + 1) qs h) h3⟩
    have hw := wid_fun (c := fun j => c (j + 1)) (ls := ls) (fun j qs h => h1 (j + 1) qs h) h3 0 (Nat.zero_le _)
    rw [List.drop_zero] at hw
    rw [hw]
    exact h2 0 ps rfl p hp
theorem paired_left {α β : Type} {R : α → β → Prop} : ∀ {as : List α} {bs : List β} {a : α}, Paired R as bs → a ∈ as → ∃ b, R a b
  | _, _, _, .nil, h => nomatch h
  | _, _, _, .cons r t, h => (List.mem_cons.mp h).elim (fun e => ⟨_, e ▸ r⟩) (paired_left t)
theorem all_N {P : Nat → Prop} : ∀ {ys : List V}, (∀ (j : Nat) (y : V), ys[j]? = some y → ∃ n : Nat, y = V.int (n : Int) ∧ P n) → ∃ cs : List Nat, ys = intsN cs ∧ ∀ c ∈ cs, P c
  | [], _ => ⟨[], rfl, fun _ z => nomatch z⟩
  | y :: ys, h => by
    obtain ⟨n, rfl, hn⟩ := h 0 y rfl
    obtain ⟨cs, rfl, hc⟩ := all_N (ys := ys) fun j z hz => h (j + 1) z hz
    exact ⟨n :: cs, rfl, fun c hc2 => (List.mem_cons.mp hc2).elim (fun e => e ▸ hn) (hc c)⟩
theorem all_ob : ∀ {ys : List V}, (∀ (j : Nat) (y : V), ys[j]? = some y → ∃ o : Option Bool, y = obV o) → ∃ es : Ends3, ys = es.map obV
  | [], _ => ⟨[], rfl⟩
  | y :: ys, h => by
    obtain ⟨o, rfl⟩ := h 0 y rfl
    obtain ⟨es, rfl⟩ := all_ob (ys := ys) fun j z hz => h (j + 1) z hz
    exact ⟨o :: es, rfl⟩
def sp__law_table (K : Frag) : Sp := fun vs H Q _ => ∃ (a st : Addr) (most : Int), vs = [.ref a, .ref st, .int most] ∧ Ctx K H a st ∧ 0 ≤ most ∧ most ≤ 100 ∧
  ∀ r pl pe ls es H', SqT K H' r [.ref pl, .ref pe] → TbR K H H' pl pe ls es → okT ls es → (ls.length : Int) ≤ most → (∀ ps ∈ ls, 1 ≤ ps.length ∧ ps.length ≤ 6) → 1 ≤ es.length → es.length ≤ 6 → Ctx K H' a st → SameX st H H' → Q (.ref r) H'
section
variable {K : Frag} {E : XK} {Q : VK} {D : L2.Ends}
theorem pure__law_table (vs : List V) (H : Hp) (Q : VK) (E : XK) (h : sp__law_table K vs H Q E) : t__law_table K E { nx := fun _ H' => Q .non H', rt := Q } (start ["_law_script", "_law_state", "_law_most", "_law_many", "_law_counts", "_law_levels", "_law_k", "_law_pairs", "_law_node", "_law_low"] vs) H := by
  obtain ⟨a, st, most, rfl, hc, m0, m1, k⟩ := h
  walk_at "gx"
  refine ⟨a, st, _, rfl, hc, by omega, fun many H1 d0 d1 c1 e1 => ?_⟩
  obtain ⟨m, rfl⟩ := Int.eq_ofNat_of_zero_le d0
  have d1 : (m : Int) < most + 1 := d1
  walk_at "gx"
  rw [show ((m : Int) + 1).toNat = m + 1 from rfl]
  refine lc_rngX (K := K) (a := a) (st := st) (m := m + 1) (fun _ y => ∃ n : Nat, y = .int (n : Int) ∧ 1 ≤ n ∧ n ≤ 6) (by rw [sizeLine_eq]; omega) c1 ?_ ?_
  · intro j H2 A hj e2 c2 hA
    refine ⟨rfl, ?_⟩
    walk_at "gx"
    refine ⟨a, st, _, rfl, c2, by decide, fun d H3 d0 d1 c3 e3 => ?_⟩
    obtain ⟨d, rfl⟩ := Int.eq_ofNat_of_zero_le d0
    have d1 : (d : Int) < 6 := d1
    exact hA _ _ e3 c3 ⟨1 + d, by push_cast; rfl, by omega, by omega⟩
  intro cq ys H2 ncq hcq ly hP e2 c2
  obtain ⟨cs, rfl, hcs⟩ := all_N hP
  rw [intsN_len] at ly
  obtain ⟨c, gc⟩ : ∃ c : Nat → Nat, ∀ i, i ≤ m → cs[i]? = some (c i) ∧ 1 ≤ c i ∧ c i ≤ 6 := ⟨fun i => cs.getD i 0, fun i hi => by
    have hi : i < cs.length := by omega
    have : cs[i]? = some cs[i] := List.getElem?_eq_getElem hi
    have e : cs.getD i 0 = cs[i] := by rw [List.getD_eq_getElem?_getD, this]; rfl
    simp only [e]
    exact ⟨this, hcs _ (List.getElem_mem hi)⟩⟩
  have cst := ctx_ne c1 ncq
  have e12 := e1.trans e2
  have ncqH : H cq = none := by
    cases h : H cq with
    | none => rfl
    | some o => rw [e1 _ _ h cst] at ncq; cases ncq
  walk_at "gx"
  refine ⟨fun lq nlq => ?_⟩
  have e3 := same_new (o := .lst []) nlq
  have dcl : cq ≠ lq := ne_of_none hcq nlq
  have lst2 := ctx_ne c2 nlq
  have nlqH : H lq = none := by
    cases h : H lq with
    | none => rfl
    | some o => rw [e12 _ _ h lst2] at nlq; cases nlq
  have hcq3 : upd H2 lq (.lst []) cq = some (.lst (intsN cs)) := e3 _ _ hcq
  walk_at "gx"
  refine for_rng (fun i σ W => ∃ (xs : List Addr) (LS : Lvs) (x6 x7 x8 x9 : Option V), σ = [some (.ref a), some (.ref st), some (.int most), some (.int m), some (.ref cq), some (.ref lq), x6, x7, x8, x9] ∧ W cq = some (.lst (intsN cs)) ∧ W lq = some (.lst (xs.map V.ref)) ∧ Paired (LvR K W) xs LS ∧ (∀ x ∈ xs, H x = none ∧ x ≠ lq) ∧ LS.length = i ∧ (∀ j ps, LS[j]? = some ps → ps.length = c j) ∧ (∀ j ps, LS[j]? = some ps → ∀ p ∈ ps, p.1 < c (j + 1) ∧ p.2 < c (j + 1)) ∧ Ctx K W a st ∧ SameX st H W)
    ⟨[], [], none, none, none, none, rfl, hcq3, upd_same, .nil, (fun _ z => nomatch z), rfl, (fun _ _ z => by simp at z), (fun _ _ z => by simp at z), c2.same e3, e12.then e3⟩ ?_ ?_
  · rintro i σ W hi ⟨xs, LS, x6, x7, x8, x9, rfl, hcq, hlq, hL, fx, lL, h1, h2, cW, eW⟩
    have hi : i < m := by omega
    obtain ⟨g1, b1, b2⟩ := gc i (Nat.le_of_lt hi)
    obtain ⟨g2, b3, b4⟩ := gc (i + 1) hi
    walk_at "gx"
    refine ⟨fun pq npq => ?_⟩
    have pst := ctx_ne cW npq
    have e4 := same_new (o := .lst []) npq
    have hcq4 := e4 _ _ hcq
    have npqH : H pq = none := by
      cases h : H pq with
      | none => rfl
      | some o => rw [eW _ _ h pst] at npq; cases npq
    have dlq : pq ≠ lq := fun z => by rw [z, hlq] at npq; cases npq
    have nx : ∀ x ∈ xs, x ≠ pq := fun x hx z => by
      obtain ⟨_, _, h, _⟩ := paired_left hL hx
      rw [z, npq] at h; cases h
    have dcq : pq ≠ cq := fun z => by rw [z, hcq] at npq; cases npq
    walk_at "gx"
    refine .of (L2.atI_nat (intsN_get g1)) ?_
    refine Need.mk ⟨by omega, by omega⟩ ?_
    refine for_rng (fun j σ W' => ∃ (ts : List Addr) (ps : List (Nat × Nat)) (x8 x9 : Option V), σ = [some (.ref a), some (.ref st), some (.int most), some (.int m), some (.ref cq), some (.ref lq), some (.int i), some (.ref pq), x8, x9] ∧ W' cq = some (.lst (intsN cs)) ∧ W' lq = some (.lst (xs.map V.ref)) ∧ Paired (LvR K W') xs LS ∧ W' pq = some (.lst (ts.map V.ref)) ∧ Paired (RowT K W') ts ps ∧ ps.length = j ∧ (∀ p ∈ ps, p.1 < c (i + 1) ∧ p.2 < c (i + 1)) ∧ Ctx K W' a st ∧ SameX st H W')
      ⟨[], [], x8, x9, rfl, hcq4, e4 _ _ hlq, Paired.mapP hL fun _ _ r => LvR.same r e4, upd_same, .nil, rfl, (fun _ z => nomatch z), cW.same e4, eW.then e4⟩ ?_ ?_
    · rintro j σ W2 hj ⟨ts, ps, x8, x9, rfl, hcq5, hlq5, hL5, hpq5, hR5, lp5, h5, c5, e5⟩
      have hj : j < c i := by omega
      have lx5 := hL5.length
      have lt5 := hR5.length
      obtain ⟨l5, hs5⟩ := ctx_st c5
      have lst0 : ∀ x ∈ xs, x ≠ st := fun x hx => ctx_ne hc (fx x hx).1
      walk_at "gx"
      refine .of (L2.atI_nat (j := i + 1) (intsN_get g2)) ?_
      refine ⟨a, st, _, rfl, c5, by omega, fun d W3 d0 d1 c6 e6 => ?_⟩
      obtain ⟨d, rfl⟩ := Int.eq_ofNat_of_zero_le d0
      have hcq6 := e6 _ _ hcq5 cst
      have hpq6 := e6 _ _ hpq5 pst
      obtain ⟨l6, hs6⟩ := ctx_st c6
      walk_at "gx"
      refine .of (L2.atI_nat (j := i + 1) (intsN_get g2)) ?_
      refine ⟨a, st, _, rfl, c6, by omega, fun d2 W4 d3 d4 c7 e7 => ?_⟩
      obtain ⟨d2, rfl⟩ := Int.eq_ofNat_of_zero_le d3
      have e67 := e6.trans e7
      have hpq7 := e67 _ _ hpq5 pst
      walk_at "gx"
      refine ⟨fun t W5 e8 ht => ?_⟩
      have e68 := e67.then e8
      have hpq8 := e68 _ _ hpq5 pst
      have hlq8 := e68 _ _ hlq5 lst2
      have hcq8 := e68 _ _ hcq5 cst
      have si : SameX pq W5 (upd W5 pq (.lst (ts.map V.ref ++ [.ref t]))) := SameX.upd
      walk_at "gx"
      refine ⟨ts ++ [t], ps ++ [(d, d2)], _, _, rfl, up_of dcq.symm hcq8, up_of dlq.symm hlq8, ?_, by rw [upd_same, List.map_append]; rfl, ?_, by rw [List.length_append, lp5]; rfl, ?_, (c7.same e8).mut hc npqH, SameX.mut (e5.trans e68) npqH⟩
      · refine paired_mem hL5 fun x _ hx r => (r.x e68 hs5 (lst0 x hx)).x si hpq8 (nx x hx)
      · refine Paired.snoc (Paired.mapP hR5 fun _ _ r => SameX.tup si (SameX.tup e68 r hs5) hpq8) (SameX.tup si ht hpq8)
      · intro p hp
        rcases List.mem_append.mp hp with hp | hp
        · exact h5 p hp
        · rw [List.mem_singleton.mp hp]; exact ⟨by omega, by omega⟩
    · rintro σ W2 ⟨ts, ps, x8, x9, rfl, hcq5, hlq5, hL5, hpq5, hR5, lp5, h5, c5, e5⟩
      have lx5 := hL5.length
      have lp5 : ps.length = c i := by rw [lp5]; omega
      have si : SameX lq W2 (upd W2 lq (.lst (xs.map V.ref ++ [.ref pq]))) := SameX.upd
      walk_at "gx"
      refine ⟨xs ++ [pq], LS ++ [ps], _, _, _, _, rfl, ?_, by rw [upd_same, List.map_append]; rfl, ?_, ?_, by rw [List.length_append, lL]; rfl, ?_, ?_, c5.mut hc nlqH, SameX.mut e5 nlqH⟩
      · exact up_of dcl hcq5
      · refine Paired.snoc (paired_mem hL5 fun x _ hx r => r.x si hlq5 (fx x hx).2) ?_
        exact LvR.x ⟨ts, hpq5, hR5⟩ si hlq5 dlq
      · intro x hx
        rcases List.mem_append.mp hx with hx | hx
        · exact fx x hx
        · rw [List.mem_singleton.mp hx]; exact ⟨npqH, dlq⟩
      · intro j qs h
        rcases Nat.lt_or_ge j LS.length with hj | hj
        · rw [List.getElem?_append_left hj] at h; exact h1 j qs h
        · rw [List.getElem?_append_right hj] at h
          have hj2 : j - LS.length = 0 := by
            rcases Nat.eq_zero_or_pos (j - LS.length) with e | e
            · exact e
            · rw [List.getElem?_eq_none (by rw [List.length_singleton]; exact e)] at h; cases h
          rw [hj2] at h
          cases (Option.some.inj h : ps = qs)
          rw [lp5, show j = i from by omega]
      · intro j qs h
        rcases Nat.lt_or_ge j LS.length with hj | hj
        · rw [List.getElem?_append_left hj] at h; exact h2 j qs h
        · rw [List.getElem?_append_right hj] at h
          have hj2 : j - LS.length = 0 := by
            rcases Nat.eq_zero_or_pos (j - LS.length) with e | e
            · exact e
            · rw [List.getElem?_eq_none (by rw [List.length_singleton]; exact e)] at h; cases h
          rw [hj2] at h
          cases (Option.some.inj h : ps = qs)
          rw [show j = i from by omega]
          exact h5
  · rintro σ W ⟨xs, LS, x6, x7, x8, x9, rfl, hcq, hlq, hL, fx, lL, h1, h2, cW, eW⟩
    have lL : LS.length = m := lL
    obtain ⟨g1, b1, b2⟩ := gc m (Nat.le_refl _)
    walk_at "gx"
    refine .of (L2.atI_nat (intsN_get g1)) ?_
    refine Need.mk ⟨by omega, by omega⟩ ?_
    refine lc_rngX (K := K) (a := a) (st := st) (m := c m) (fun _ y => ∃ o : Option Bool, y = obV o) (by rw [sizeLine_eq]; omega) cW ?_ ?_
    · intro j W2 A hj e5 c5 hA
      refine ⟨rfl, ?_⟩
      walk_at "gx"
      refine ⟨fun z nz => ?_⟩
      have e6 := same_new (o := .lst [V.bl true, .bl false, .non]) nz
      refine ⟨a, st, _, rfl, c5.same e6, by decide, fun d W3 d0 d1 c6 e7 => ?_⟩
      have d1 : d < 3 := d1
      have hz : W3 z = some (.lst [V.bl true, .bl false, .non]) := e7 _ _ upd_same (ctx_ne c5 nz)
      have e8 := Same.thenX e6 e7
      walk_at "gx"
      rcases (by omega : d = 0 ∨ d = 1 ∨ d = 2) with rfl | rfl | rfl
      · exact .of (L2.atI_nat (j := 0) rfl) (hA _ _ e8 c6 ⟨some true, rfl⟩)
      · exact .of (L2.atI_nat (j := 1) rfl) (hA _ _ e8 c6 ⟨some false, rfl⟩)
      · exact .of (L2.atI_nat (j := 2) rfl) (hA _ _ e8 c6 ⟨none, rfl⟩)
    · intro pe ys W2 npe hpe lye hP e5 c5
      obtain ⟨es, rfl⟩ := all_ob hP
      rw [List.length_map] at lye
      have pest := ctx_ne cW npe
      obtain ⟨l, hs⟩ := ctx_st cW
      walk_at "gx"
      refine ⟨fun r W3 e6 hr => ?_⟩
      walk_at "gx"
      have npeH : H pe = none := by
        cases h : H pe with
        | none => rfl
        | some o => rw [eW _ _ h pest] at npe; cases npe
      have le : es.length = c LS.length := by rw [lye, lL]
      refine k r lq pe LS es W3 hr ⟨⟨xs, e6 _ _ (e5 _ _ hlq lst2), paired_mem hL fun x _ hx r => LvR.same (r.x e5 hs (ctx_ne hc (fx x hx).1)) e6, fun x hx => (fx x hx).1⟩, e6 _ _ hpe, nlqH, npeH⟩ (okT_fun h1 h2 le) (by omega) ?_ (by omega) (by omega) (c5.same e6) ((eW.trans e5).then e6)
      · intro ps hps
        obtain ⟨j, hj, rfl⟩ := List.mem_iff_getElem.mp hps
        rw [h1 j _ (List.getElem?_eq_getElem hj)]
        exact (gc j (by omega)).2
end
end S
-- deps: D0 D1
/-! ## comprehensions with a filter over a range -/
namespace S
open PySem PySem.Spec PyProof.Rows L2
theorem lc_rngF {m i : Nat} {tt : TT} {te : TE} {vs : List Nat} {σ : L2.St} {H1 : Hp} {Q : VK} (pz : Nat → Bool) (f : Nat → Int) (hz : m < sizeLine)
    (hs : ∀ (j : Nat) (H : Hp) (A : V → Hp → Prop) (B : Hp → Prop), j < m → Same H1 H → (pz j = true → A (.int (f j)) H) → (pz j = false → B H) → wipe ((wipe σ vs).set i (some (.int j))) vs = wipe σ vs ∧ tt ((wipe σ vs).set i (some (.int j))) H fun b H3 => if b = true then te ((wipe σ vs).set i (some (.int j))) H3 A else B H3)
    (hd : ∀ D H', H1 D = none → H' D = some (.lst ((((List.range m).filter pz).map f).map V.int)) → Same H1 H' → Q (.ref D) H') :
    Wr (LcGo (gName i) tt te vs σ Q) (Itr 0 m) H1 := by
  refine ⟨fun D hD => ?_⟩
  refine lc_range (lo := 0) (Qd := fun H => Q (.ref D) H) (fun j H => H D = some (.lst ((((List.range j).filter pz).map f).map V.int)) ∧ Same H1 H) ⟨upd_same, same_new hD⟩ ?_ ?_
  · rintro j H hj ⟨h1, e⟩
    show gName i (.int (0 + (j : Int))) (wipe σ vs) H _
    rw [Int.zero_add]
    have rs : List.range (j + 1) = List.range j ++ [j] := List.range_succ
    refine hs j H _ _ hj e (fun hp => ?_) (fun hp => ?_)
    · refine ⟨_, h1, ?_, ?_, fun b o hb => ?_⟩
      · have : ((List.range j).filter pz).length ≤ (List.range j).length := List.length_filter_le _ _
        rw [List.length_range] at this
        rw [List.length_map, List.length_map]; omega
      · rw [upd_same, rs, List.filter_append, List.filter_cons_of_pos hp, List.filter_nil, List.map_append, List.map_append]; rfl
      · rw [upd_ne (ne_of_none hb hD)]
        exact e _ _ hb
    · refine ⟨?_, e⟩
      rw [rs, List.filter_append, List.filter_cons_of_neg (by rw [hp]; exact Bool.false_ne_true), List.filter_nil, List.append_nil]
      exact h1
  · rintro H ⟨h1, e⟩
    exact hd D H hD h1 e
end S
-- deps: Lc D0
/-! ## comprehensions over range; stretches as lists -/
namespace S
open PySem PySem.Spec PyProof.Rows L2
theorem lc_rng {m i : Nat} {te : TE} {vs : List Nat} {σ : L2.St} {H1 : Hp} {Q : VK} (R : Addr → Nat → V → Hp → Prop) (hz : m < sizeLine)
    (mono : ∀ D j y H H' l, H D = some (.lst l) → R D j y H → SameX D H H' → R D j y H')
    (hs : ∀ (D : Addr) (l : List V) (j : Nat) (H : Hp) (A : V → Hp → Prop), H1 D = none → H D = some (.lst l) → j < m → Same H1 H → (∀ y H', Same H H' → R D j y H' → A y H') → wipe ((wipe σ vs).set i (some (.int j))) vs = wipe σ vs ∧ te ((wipe σ vs).set i (some (.int j))) H A)
    (hd : ∀ D ys H', H1 D = none → H' D = some (.lst ys) → ys.length = m → (∀ j y, ys[j]? = some y → R D j y H') → Same H1 H' → Q (.ref D) H') :
    Wr (LcGo (gName i) tYes te vs σ Q) (Itr 0 m) H1 := by
  refine ⟨fun D hD => ?_⟩
  refine lc_range (lo := 0) (Qd := fun H => Q (.ref D) H) (fun j H => ∃ ys, H D = some (.lst ys) ∧ ys.length = j ∧ (∀ k y, ys[k]? = some y → R D k y H) ∧ Same H1 H) ⟨[], upd_same, rfl, fun k y h => by simp at h, same_new hD⟩ ?_ ?_
  · rintro j H hj ⟨ys, h1, h2, h3, e⟩
    obtain ⟨w, q⟩ := hs D ys j H (fun y H4 => ∃ acc, H4 D = some (.lst acc) ∧ acc.length < sizeLine ∧ ∃ ys, upd H4 D (.lst (acc ++ [y])) D = some (.lst ys) ∧ ys.length = j + 1 ∧ (∀ k y', ys[k]? = some y' → R D k y' (upd H4 D (.lst (acc ++ [y])))) ∧ Same H1 (upd H4 D (.lst (acc ++ [y])))) hD h1 hj e fun y H' e2 r => by
      have si : SameX D H' (L2.upd H' D (.lst (ys ++ [y]))) := SameX.upd
      refine ⟨ys, e2 _ _ h1, by omega, ys ++ [y], upd_same, by rw [List.length_append, List.length_singleton, h2], fun k y' hk => ?_, fun b o hb => ?_⟩
      · by_cases hkj : k < ys.length
        · rw [List.getElem?_append_left hkj] at hk
          exact mono _ _ _ _ _ _ h1 (h3 k y' hk) (Same.thenX e2 si)
        · have hk2 : k < ys.length + 1 := by
            obtain ⟨h, _⟩ := List.getElem?_eq_some_iff.mp hk
            rw [List.length_append, List.length_singleton] at h; exact h
          have ek : k = j := by omega
          subst ek
          rw [List.getElem?_append_right (by omega), h2, Nat.sub_self] at hk
          have ey : y = y' := by simpa using hk
          rw [← ey]
          exact mono _ _ _ _ _ _ (e2 _ _ h1) r si
      · rw [upd_ne (ne_of_none hb hD)]
        exact e2 _ _ (e _ _ hb)
    show gName i (.int (0 + (j : Int))) (wipe σ vs) H _
    rw [Int.zero_add]
    refine ⟨w, ?_⟩
    unfold tYes
    dsimp only
    rw [if_pos rfl]
    exact q
  · rintro H ⟨ys, h1, h2, h3, e⟩
    exact hd D ys H hD h1 h2 h3 e
end S
namespace S
open PySem PySem.Spec PyProof.Rows L2
def t__law_ids_b1 (K : Frag) (E : XK) : TS :=
    tDrop (dML K mApp (dVar 4) (tCons (dCall (sp__law_draw K) (EW E) (tCons (dVar 0) (tCons (dVar 1) (tCons (dVar 2) (tNil))))) (tNil)))
def t__law_ids_3 (K : Frag) (E : XK) : TS :=
    tRet (dVar 4)
def t__law_ids_2 (K : Frag) (E : XK) : TS :=
    tSeq (dFor (iRng (tCons (dCall (sp__law_draw K) (EW E) (tCons (dVar 0) (tCons (dVar 1) (tCons (tC (.int 3)) (tNil))))) (tNil))) (gName 5) (t__law_ids_b1 K E))
    (stop (t__law_ids_3 K E))
def t__law_ids_1 (K : Frag) (E : XK) : TS :=
    tSeq (tAsg (dLc (iRng (tCons (dVar 2) (tNil))) (gName 5) (tYes) (tOp oMod (tCB cInt (tCons (tOp (oAdd K) (dVar 3) (dVar 5)) (tNil))) (dVar 2)) [5]) (gName 4))
    (stop (t__law_ids_2 K E))
def t__law_ids (K : Frag) (E : XK) : TS :=
    tSeq (tAsg (dCall (sp__law_draw K) (EW E) (tCons (dVar 0) (tCons (dVar 1) (tCons (dVar 2) (tNil))))) (gName 3))
    (stop (t__law_ids_1 K E))
end S
-- fn: _law_ids
-- law: k50
-- deps: Lr _law_table
namespace S
open PySem PySem.Spec PyProof.Rows L2
def sp__law_ids (K : Frag) : Sp := fun vs H Q _ => ∃ (a st : Addr) (c : Nat), vs = [.ref a, .ref st, .int (c : Int)] ∧ Ctx K H a st ∧ 0 < c ∧ c ≤ 1000 ∧
  ∀ (p : Addr) (ids : List Nat) (H' : Hp), H p = none → H' p = some (.lst (intsN ids)) → (∀ n, n < c → n ∈ ids) → (∀ n ∈ ids, n < c) → ids.length ≤ c + 2 → Ctx K H' a st → SameX st H H' → Q (.ref p) H'
theorem none_of {H H' : Hp} {p st : Addr} (e : SameX st H H') (n : H' p = none) (ne : p ≠ st) : H p = none := by
  cases h : H p with
  | none => rfl
  | some o => rw [e _ _ h ne] at n; cases n
theorem pure__law_ids {K : Frag} (vs : List V) (H : Hp) (Q : VK) (E : XK) (h : sp__law_ids K vs H Q E) : t__law_ids K E { nx := fun _ H' => Q .non H', rt := Q } (start ["_law_script", "_law_state", "_law_count", "_law_shift", "_law_ids_here", "_law_k"] vs) H := by
  obtain ⟨a, st, c, rfl, hc, c0, c1, k⟩ := h
  walk_at "gx"
  refine ⟨a, st, _, rfl, hc, by omega, fun s H1 s0 s1 cx1 e1 => ?_⟩
  obtain ⟨s, rfl⟩ := Int.eq_ofNat_of_zero_le s0
  have s1 : s < c := by have : (s : Int) < c := s1; omega
  walk_at "gx"
  refine lc_rng (m := c) (fun D j y H => y = .int (((s + j) % c : Nat) : Int)) (by rw [sizeLine_eq]; omega) (fun _ _ _ _ _ _ _ h _ => h) ?_ ?_
  · intro D l j H2 A _ _ hj e2 hA
    refine ⟨rfl, ?_⟩
    walk_at "gx"
    exact hA _ _ (Same.refl _) (by push_cast; rfl)
  intro p ys H2 np hp ly hP e2
  have ey : ys = intsN ((List.range c).map fun j => (s + j) % c) := by
    unfold intsN
    refine List.ext_getElem? fun j => ?_
    by_cases hj : j < c
    · have : j < ys.length := by omega
      rw [List.getElem?_eq_getElem this, List.getElem?_map, List.getElem?_map, List.getElem?_range hj]
      exact congrArg some (hP j _ (List.getElem?_eq_getElem this))
    · rw [List.getElem?_eq_none (by omega), List.getElem?_eq_none (by simp; omega)]
  subst ey
  have pst := ctx_ne cx1 np
  have npH := none_of e1 np pst
  walk_at "gx"
  refine ⟨a, st, _, rfl, cx1.same e2, by decide, fun d H3 d0 d1 cx3 e3 => ?_⟩
  have d1 : d < 3 := d1
  have hp3 := e3 _ _ hp pst
  refine Need.mk ⟨by omega, by omega⟩ ?_
  refine for_rng (fun i σ W => ∃ (ids : List Nat) (x : Option V), σ = [some (.ref a), some (.ref st), some (.int (c : Int)), some (.int (s : Int)), some (.ref p), x] ∧ W p = some (.lst (intsN ids)) ∧ (∀ n, n < c → n ∈ ids) ∧ (∀ n ∈ ids, n < c) ∧ ids.length = c + i ∧ Ctx K W a st ∧ SameX st H W)
    ⟨_, none, rfl, hp3, fun n hn => ?_, fun n hn => ?_, by simp, cx3, (e1.then e2).trans e3⟩ ?_ ?_
  · refine List.mem_map.mpr ⟨(n + c - s) % c, List.mem_range.mpr (Nat.mod_lt _ c0), ?_⟩
    rw [Nat.add_mod_mod, show s + (n + c - s) = n + c from by omega, Nat.add_mod_right, Nat.mod_eq_of_lt hn]
  · obtain ⟨j, _, rfl⟩ := List.mem_map.mp hn
    exact Nat.mod_lt _ c0
  · rintro i σ W hi ⟨ids, x, rfl, hp, h1, h2, l, cW, eW⟩
    walk_at "gx"
    refine ⟨a, st, _, rfl, cW, by omega, fun z W2 z0 z1 c5 e5 => ?_⟩
    obtain ⟨z, rfl⟩ := Int.eq_ofNat_of_zero_le z0
    have z1 : (z : Int) < c := z1
    have hp5 := e5 _ _ hp pst
    have li := intsN_len ids
    walk_at "gx"
    refine ⟨ids ++ [z], _, rfl, by rw [upd_same]; unfold intsN; rw [List.map_append]; rfl, fun n hn => List.mem_append_left _ (h1 n hn), fun n hn => ?_, by rw [List.length_append, l]; rfl, c5.mut hc npH, SameX.mut (eW.trans e5) npH⟩
    rcases List.mem_append.mp hn with hn | hn
    · exact h2 n hn
    · rw [List.mem_singleton.mp hn]; omega
  · rintro σ W ⟨ids, x, rfl, hp, h1, h2, l, cW, eW⟩
    walk_at "gx"
    exact k p ids W npH hp h1 h2 (by omega) cW eW
end S
namespace S
open PySem PySem.Spec PyProof.Rows L2
def t__law_place_1 (K : Frag) (E : XK) : TS :=
    tRet (tOp (oIx K) (dVar 4) (dCall (sp__law_draw K) (EW E) (tCons (dVar 0) (tCons (dVar 1) (tCons (tCB (cLen K) (tCons (dVar 4) (tNil))) (tNil))))))
def t__law_place (K : Frag) (E : XK) : TS :=
    tSeq (tAsg (dLc (iRng (tCons (tCB (cLen K) (tCons (dVar 2) (tNil))) (tNil))) (gName 5) (dCmpT (oEq K) (tOp (oIx K) (dVar 2) (dVar 5)) (dVar 3)) (dVar 5) [5]) (gName 4))
    (stop (t__law_place_1 K E))
end S
-- fn: _law_place
-- law: k50
-- deps: Lrf _law_ids
namespace S
open PySem PySem.Spec PyProof.Rows L2
def sp__law_place (K : Frag) : Sp := fun vs H Q _ => ∃ (a st p : Addr) (ids : List Nat) (n : Nat), vs = [.ref a, .ref st, .ref p, .int (n : Int)] ∧ Ctx K H a st ∧ H p = some (.lst (intsN ids)) ∧ p ≠ st ∧ n ∈ ids ∧ ids.length ≤ 10000 ∧
  ∀ (j : Nat) (H' : Hp), ids[j]? = some n → Ctx K H' a st → SameX st H H' → Q (.int (j : Int)) H'
theorem pure__law_place {K : Frag} (vs : List V) (H : Hp) (Q : VK) (E : XK) (h : sp__law_place K vs H Q E) : t__law_place K E { nx := fun _ H' => Q .non H', rt := Q } (start ["_law_script", "_law_state", "_law_ids_here", "_law_node", "_law_places", "_law_k"] vs) H := by
  obtain ⟨a, st, p, ids, n, rfl, hc, hp, pst, hn, lI, k⟩ := h
  have li := intsN_len ids
  walk_at "gx"
  rw [li]
  refine lc_rngF (m := ids.length) (fun j => decide (ids[j]? = some n)) (fun j => (j : Int)) (by rw [sizeLine_eq]; omega) ?_ ?_
  · intro j H1 A B hj e1 hA hB
    have g : ids[j]? = some ids[j] := List.getElem?_eq_getElem hj
    have hp1 := e1 _ _ hp
    refine ⟨rfl, ?_⟩
    walk_at "gx"
    refine .of (L2.atI_nat (intsN_get g)) ?_
    rw [g] at hA hB
    show if decide ((ids[j] : Int) = (n : Int)) = true then A (.int (j : Int)) H1 else B H1
    by_cases h : ids[j] = n
    · rw [if_pos (decide_eq_true (by exact_mod_cast h))]
      exact hA (by simp [h])
    · rw [if_neg (by rw [decide_eq_true_eq]; exact fun z => h (by exact_mod_cast z))]
      exact hB (decide_eq_false fun z => h (Option.some.inj z))
  intro D H1 nD hD e1
  obtain ⟨j0, hj0, e0⟩ := List.mem_iff_getElem.mp hn
  have pos : 0 < ((List.range ids.length).filter fun j => decide (ids[j]? = some n)).length := List.length_pos_of_mem (List.mem_filter.mpr ⟨List.mem_range.mpr hj0, by rw [List.getElem?_eq_getElem hj0, e0]; exact decide_eq_true rfl⟩)
  have lz : ((List.range ids.length).filter fun j => decide (ids[j]? = some n)).length ≤ ids.length := by
    have := List.length_filter_le (fun j => decide (ids[j]? = some n)) (List.range ids.length)
    rwa [List.length_range] at this
  have mz : ∀ j ∈ (List.range ids.length).filter fun j => decide (ids[j]? = some n), ids[j]? = some n := fun j hj => of_decide_eq_true (List.mem_filter.mp hj).2
  generalize ((List.range ids.length).filter fun j => decide (ids[j]? = some n)) = Z at *
  walk_at "gx"
  refine ⟨a, st, _, rfl, hc.same e1, by simp only [List.length_map]; omega, fun d H2 d0 d1 c2 e2 => ?_⟩
  obtain ⟨d, rfl⟩ := Int.eq_ofNat_of_zero_le d0
  have d1 : (d : Int) < (((Z.map fun j : Nat => (j : Int)).map V.int).length : Int) := d1
  rw [List.length_map, List.length_map] at d1
  have d1 : d < Z.length := by omega
  have hD2 := e2 _ _ hD (ctx_ne hc nD)
  walk_at "gx"
  refine .of (v := .int (Z[d] : Int)) (L2.atI_nat (by rw [List.getElem?_map, List.getElem?_map, List.getElem?_eq_getElem d1]; rfl)) ?_
  exact k _ _ (mz _ (List.getElem_mem d1)) c2 (Same.thenX e1 e2)
end S
-- deps: Column_of_runs Column_at Cx
/-! ## comparing bit by bit, from the top -/
namespace S
open PySem PySem.Spec PyProof.Rows L2
section
variable {K : Frag} {H : Hp} {x y : Addr} {n : Int} {f g : Int → Bool} {S : List Int} {Q : VK} {E : XK}
theorem Bs.mono {S' : List Int} (h : Bs K H x n f S) (hs : ∀ z ∈ S, z ∈ S') : Bs K H x n f S' := let ⟨es, a, b, c⟩ := h; ⟨es, a, fun z hz => hs z (b z hz), c⟩
end
end S
-- deps: Bs Cmp
/-! ## whether a bitmap has a row, as a test -/
namespace S
open PySem PySem.Spec PyProof.Rows L2
end S
namespace S
open PySem PySem.Spec PyProof.Rows L2
end S
-- fn: Answer.__init__
-- law: k46
-- own: BitAnd=Bitmap Sub=Bitmap bool=Bitmap
-- deps: Bs Cmp Nef Bitmap_ops
namespace S
open PySem PySem.Spec PyProof.Rows L2
end S
namespace S
open PySem PySem.Spec PyProof.Rows L2
end S
-- fn: Bitmap.rank
-- law: k11
-- deps: Bm _law_in swept Bitmap_init
namespace S
open PySem PySem.Spec PyProof.Rows L2
end S
namespace S
open PySem PySem.Spec PyProof.Rows L2
end S
-- fn: Bitmap.ones
-- law: k11
-- deps: Bm Bitmap_rank
namespace S
open PySem PySem.Spec PyProof.Rows L2
end S
-- deps: Bm Bitmap_ops Bitmap_rank Bitmap_ones
/-! ## bitmaps told by their rows; counts -/
namespace S
open PySem PySem.Spec PyProof.Rows L2
/-- a bitmap whose rows are told by f, at most m ends -/
def Bx (K : Frag) (H : Hp) (x : Addr) (n : Int) (f : Int → Bool) (m : Nat) : Prop := ∃ es, Bm K H x n es ∧ es.length ≤ m ∧ ∀ row, 0 ≤ row → row < n → inB es row = f row
theorem Bx.same {K : Frag} {H H' : Hp} {x : Addr} {n : Int} {f : Int → Bool} {m : Nat} (h : Bx K H x n f m) (e : Same H H') : Bx K H' x n f m := let ⟨es, a, b, c⟩ := h; ⟨es, a.same e, b, c⟩
theorem Bx.slt {K : Frag} {H : Hp} {x : Addr} {n : Int} {f : Int → Bool} {m : Nat} (h : Bx K H x n f m) : ∃ dx vs, SlX.Slt H x (He.ga K "Bitmap") dx vs := let ⟨_, ⟨_, _, _, dx, _, a, _⟩, _⟩ := h; ⟨dx, _, a⟩
section
variable {K : Frag} {H : Hp} {x y : Addr} {n : Int} {f g : Int → Bool} {m1 m2 : Nat} {Q : VK} {E : XK}
end
/-! ### counts -/
section
variable {K : Frag} {H : Hp} {x y : Addr} {n : Int} {f g : Int → Bool} {m1 m2 : Nat} {Q : VK} {E : XK}
end
end S
namespace S
open PySem PySem.Spec PyProof.Rows L2
end S
namespace S
open PySem PySem.Spec PyProof.Rows L2
end S
namespace S
open PySem PySem.Spec PyProof.Rows L2
end S
namespace S
open PySem PySem.Spec PyProof.Rows L2
end S
namespace S
open PySem PySem.Spec PyProof.Rows L2
end S
namespace S
open PySem PySem.Spec PyProof.Rows L2
end S
-- fn: Answer.unknown Answer.surely Answer.__and__ Answer.__or__ Answer.__invert__ Answer.__eq__
-- law: k46
-- own: BitAnd=Bitmap BitOr=Bitmap Sub=Bitmap Eq=Bitmap
-- deps: Answer_init Bx
namespace S
open PySem PySem.Spec PyProof.Rows L2
section
variable {K : Frag} {H : Hp} {a : Addr} {n : Int} {S : List Int} {fR fY fN : Int → Bool}
end
end S
-- deps: Bs Cmp Nef Answer_ops
/-! ## masks: rows as the bits of a number -/
namespace S
open PySem PySem.Spec PyProof.Rows L2
def bitN (m : Nat) (r : Int) : Bool := m.testBit r.toNat
theorem bit_and (m : Nat) (r : Int) : decide (Builtin.bitAnd ((m : Int) / 2 ^ r.toNat) 1 = 1) = bitN m r := by
  rw [bitAnd_m1]
  unfold bitN
  rw [Nat.testBit_eq_decide_div_mod_eq]
  have : ((m : Int) / 2 ^ r.toNat) % 2 = ((m / 2 ^ r.toNat % 2 : Nat) : Int) := by
    rw [Int.natCast_emod, Int.natCast_ediv, Int.natCast_pow]; rfl
  rw [this]
  by_cases h : m / 2 ^ r.toNat % 2 = 1
  · rw [decide_eq_true h, decide_eq_true (by omega)]
  · rw [decide_eq_false h, decide_eq_false (by omega)]
theorem bit_val (m : Nat) (r : Int) : Builtin.bitAnd ((m : Int) / 2 ^ r.toNat) 1 = if bitN m r = true then 1 else 0 := by
  have h := bit_and m r
  rw [bitAnd_m1] at h ⊢
  by_cases g : bitN m r = true
  · rw [g] at h; rw [if_pos g]; exact of_decide_eq_true h
  · rw [if_neg g]
    have g : bitN m r = false := by simpa using g
    rw [g] at h
    have := of_decide_eq_false h
    omega
/-! ### three masks -/
theorem apart {Y N : Nat} : Y &&& N = 0 ↔ ∀ i, ¬ (Y.testBit i = true ∧ N.testBit i = true) := by
  constructor
  · intro h i ⟨g1, g2⟩
    have : (Y &&& N).testBit i = true := by rw [Nat.testBit_and, g1, g2]; rfl
    rw [h, Nat.zero_testBit] at this; cases this
  · intro h
    refine Nat.eq_of_testBit_eq fun i => ?_
    rw [Nat.testBit_and, Nat.zero_testBit]
    have := h i
    revert this
    cases Y.testBit i <;> cases N.testBit i <;> decide
end S
-- deps: M46 Lr _law_run
/-! ## the bits of a number, highest first, as a list -/
namespace S
open PySem PySem.Spec PyProof.Rows L2
def bitsN (m n : Nat) : List Bool := (List.range m).map fun k => n.testBit (m - 1 - k)
theorem bitsN_len (m n : Nat) : (bitsN m n).length = m := by unfold bitsN; rw [List.length_map, List.length_range]
theorem bitsN_get {m n j : Nat} (h : j < m) : (bitsN m n)[j]? = some (n.testBit (m - 1 - j)) := by unfold bitsN; rw [List.getElem?_map, List.getElem?_range h]; rfl
theorem bit_tst (n m j : Nat) (h : j < m) : V.int (Builtin.bitAnd ((n : Int) / 2 ^ ((m : Int) - 1 - (j : Int)).toNat) 1) = bitV (n.testBit (m - 1 - j)) := by
  have e := bit_val n ((m : Int) - 1 - (j : Int))
  rw [e]
  unfold bitN bitV
  rw [show ((m : Int) - 1 - (j : Int)).toNat = m - 1 - j from by omega]
theorem lc_bits {m n i : Nat} {te : TE} {vs : List Nat} {σ : L2.St} {H1 : Hp} {Q : VK} (hz : m < sizeLine)
    (hs : ∀ (j : Nat) (H : Hp) (A : V → Hp → Prop), j < m → Same H1 H → A (bitV (n.testBit (m - 1 - j))) H → wipe ((wipe σ vs).set i (some (.int j))) vs = wipe σ vs ∧ te ((wipe σ vs).set i (some (.int j))) H A)
    (hd : ∀ D H', H1 D = none → H' D = some (.lst ((bitsN m n).map bitV)) → Same H1 H' → Q (.ref D) H') :
    Wr (LcGo (gName i) tYes te vs σ Q) (Itr 0 m) H1 := by
  refine lc_rng (fun D j y H => y = bitV (n.testBit (m - 1 - j))) hz (fun D j y H H' l _ h _ => h) ?_ ?_
  · intro D l j H A hD hl hj e hA
    exact hs j H A hj e (hA _ _ (Same.refl _) rfl)
  · intro D ys H' hD hl ly hP e
    refine hd D H' hD ?_ e
    rw [hl]
    congr 2
    refine List.ext_getElem? fun j => ?_
    by_cases hj : j < m
    · have : j < ys.length := by omega
      rw [List.getElem?_eq_getElem this, List.getElem?_map, bitsN_get hj]
      exact congrArg some (hP j _ (List.getElem?_eq_getElem this))
    · rw [List.getElem?_eq_none (by omega), List.getElem?_eq_none (by rw [List.length_map, bitsN_len]; omega)]
end S
-- deps: Tbl Bts _law_run
/-! ## twins of tables; runs tell trees apart -/
namespace S
open PySem PySem.Spec PyProof.Rows L2
structure TwF (ls : Lvs) (es : Ends3) (I : Nat → List Nat) (ms : Lvs) : Prop where
  ln : ms.length = ls.length
  lt : ∀ k, k ≤ ls.length → ∀ n ∈ I k, n < wid (ls.drop k) es
  st : ∀ (k : Nat) (ps qs : List (Nat × Nat)), ls[k]? = some ps → ms[k]? = some qs → qs.length = (I k).length ∧ ∀ (j n : Nat) (p q : Nat × Nat), (I k)[j]? = some n → ps[n]? = some p → qs[j]? = some q → (I (k + 1))[q.1]? = some p.1 ∧ (I (k + 1))[q.2]? = some p.2
theorem gT_map {T : List BT} {l : List Nat} {i n : Nat} (h : l[i]? = some n) : gT (l.map (gT T)) i = gT T n := by
  show (l.map (gT T)).getD i _ = _
  rw [List.getD_eq_getElem?_getD, List.getElem?_map, h]; rfl
theorem tw_trees {ls : Lvs} {es : Ends3} {I : Nat → List Nat} {ms : Lvs} (ok : okT ls es) (h : TwF ls es I ms) : ∀ d k, k + d = ls.length → trees (ms.drop k) ((I ls.length).map fun n => es.getD n none) = (I k).map (gT (trees (ls.drop k) es)) ∧ okT (ms.drop k) ((I ls.length).map fun n => es.getD n none)
  | 0, k, e => by
    have e : k = ls.length := by omega
    subst e
    rw [List.drop_length, List.drop_of_length_le (by rw [h.ln]; exact Nat.le_refl _)]
    refine ⟨?_, True.intro⟩
    show ((I ls.length).map _).map BT.lf = _
    rw [List.map_map]
    refine List.map_congr_left fun n hn => ?_
    show BT.lf (es.getD n none) = (es.map BT.lf).getD n (BT.lf none)
    rw [List.getD_eq_getElem?_getD, List.getD_eq_getElem?_getD, List.getElem?_map]
    cases es[n]? <;> rfl
  | d + 1, k, e => by
    obtain ⟨ih, ihk⟩ := tw_trees ok h d (k + 1) (by omega)
    have hk : k < ls.length := by omega
    have g1 : ls[k]? = some ls[k] := List.getElem?_eq_getElem hk
    have g2 : ms[k]? = some (ms[k]'(by rw [h.ln]; exact hk)) := List.getElem?_eq_getElem _
    generalize ms[k]'(by rw [h.ln]; exact hk) = qs at g2
    generalize ls[k] = ps at g1
    obtain ⟨lq, hq⟩ := h.st k ps qs g1 g2
    have hlt := h.lt k (Nat.le_of_lt hk)
    have ok2 := okT.drop k ok
    rw [drop_cons g1] at ok2 hlt
    rw [drop_cons g2, drop_cons g1]
    have key : ∀ (j : Nat) (q : Nat × Nat), qs[j]? = some q → ∃ (n : Nat) (p : Nat × Nat), (I k)[j]? = some n ∧ ps[n]? = some p ∧ (I (k + 1))[q.1]? = some p.1 ∧ (I (k + 1))[q.2]? = some p.2 := fun j q hj => by
      have jl : j < (I k).length := by rw [← lq]; exact (List.getElem?_eq_some_iff.mp hj).1
      have gn : (I k)[j]? = some (I k)[j] := List.getElem?_eq_getElem jl
      have nl : (I k)[j] < ps.length := hlt _ (List.getElem_mem jl)
      have gp : ps[(I k)[j]]? = some ps[(I k)[j]] := List.getElem?_eq_getElem nl
      exact ⟨_, _, gn, gp, hq j _ _ q gn gp hj⟩
    refine ⟨?_, fun q hq2 => ?_, ihk⟩
    · show qs.map _ = _
      rw [ih]
      refine List.ext_getElem? fun j => ?_
      rw [List.getElem?_map, List.getElem?_map]
      cases hj : qs[j]? with
      | none =>
        have : (I k)[j]? = none := List.getElem?_eq_none (by rw [← lq]; exact List.getElem?_eq_none_iff.mp hj)
        rw [this]; rfl
      | some q =>
        obtain ⟨n, p, gn, gp, k1, k2⟩ := key j q hj
        rw [gn]
        show some (BT.nd _ _) = some (gT (ps.map _) n)
        rw [gT_map k1, gT_map k2]
        show _ = some ((ps.map _).getD n _)
        rw [List.getD_eq_getElem?_getD, List.getElem?_map, gp]; rfl
    · obtain ⟨j, hj, rfl⟩ := List.mem_iff_getElem.mp hq2
      obtain ⟨n, p, gn, gp, k1, k2⟩ := key j _ (List.getElem?_eq_getElem hj)
      rw [← trees_len, ih, List.length_map]
      exact ⟨(List.getElem?_eq_some_iff.mp k1).1, (List.getElem?_eq_some_iff.mp k2).1⟩
/-- full trees with the same runs are the same -/
theorem run_ext : ∀ (m : Nat) (t u : BT), t.full m → u.full m → (∀ bs : List Bool, bs.length = m → t.run bs = u.run bs) → t = u
  | 0, .lf a, .lf b, _, _, h => by have := h [] rfl; exact congrArg BT.lf this
  | 0, .nd _ _, _, h, _, _ => h.elim
  | 0, .lf _, .nd _ _, _, h, _ => h.elim
  | m + 1, .lf _, _, h, _, _ => h.elim
  | m + 1, .nd _ _, .lf _, _, h, _ => h.elim
  | m + 1, .nd a b, .nd c d, h1, h2, h => by
    rw [run_ext m a c h1.1 h2.1 fun bs hb => h (false :: bs) (by simp [hb]), run_ext m b d h1.2 h2.2 fun bs hb => h (true :: bs) (by simp [hb])]
/-- each list of bits is that of a number -/
theorem bitsN_all : ∀ (bs : List Bool), ∃ n, n < 2 ^ bs.length ∧ bitsN bs.length n = bs
  | [] => ⟨0, by simp, rfl⟩
  | b :: bs => by
    obtain ⟨n, hn, e⟩ := bitsN_all bs
    refine ⟨(if b then 2 ^ bs.length else 0) + n, ?_, ?_⟩
    · rw [List.length_cons, Nat.pow_succ]
      cases b
      · simp; omega
      · simp; omega
    · refine List.ext_getElem? fun j => ?_
      rcases j with _ | j
      · rw [bitsN_get (by simp)]
        show some _ = some b
        congr 1
        rw [List.length_cons, Nat.add_sub_cancel, Nat.sub_zero]
        cases b
        · rw [if_neg (by decide), Nat.zero_add]; exact Nat.testBit_lt_two_pow hn
        · rw [if_pos rfl, Nat.testBit_two_pow_add_eq, Nat.testBit_lt_two_pow hn]; rfl
      · rw [List.getElem?_cons_succ]
        conv => rhs; rw [← e]
        by_cases hj : j < bs.length
        · rw [bitsN_get hj, bitsN_get (by rw [List.length_cons]; omega)]
          congr 1
          rw [List.length_cons, show bs.length + 1 - 1 - (j + 1) = bs.length - 1 - j from by omega]
          cases b
          · rw [if_neg (by decide), Nat.zero_add]
          · rw [if_pos rfl, Nat.testBit_two_pow_add_gt (by omega)]
        · rw [List.getElem?_eq_none (by rw [bitsN_len, List.length_cons]; omega), List.getElem?_eq_none (by rw [bitsN_len]; omega)]
end S
namespace S
open PySem PySem.Spec PyProof.Rows L2
def t__law_twin_b1 (K : Frag) (E : XK) : TS :=
    tDrop (dML K mApp (dVar 4) (tCons (dCall (sp__law_ids K) (EW E) (tCons (dVar 0) (tCons (dVar 1) (tCons (dVar 5) (tNil))))) (tNil)))
def t__law_twin_b3_1 (K : Frag) (E : XK) : TS :=
    tDrop (dML K mApp (dVar 8) (tCons (dTup K (tCons (dVar 10) (tCons (dCall (sp__law_place K) (EW E) (tCons (dVar 0) (tCons (dVar 1) (tCons (tOp (oIx K) (dVar 4) (tOp (oAdd K) (dVar 7) (tC (.int 1)))) (tCons (tOp (oIx K) (tOp (oIx K) (tOp (oIx K) (tOp (oIx K) (dVar 2) (tC (.int 0))) (dVar 7)) (dVar 9)) (tC (.int 1))) (tNil)))))) (tNil)))) (tNil)))
def t__law_twin_b3 (K : Frag) (E : XK) : TS :=
    tSeq (tAsg (dCall (sp__law_place K) (EW E) (tCons (dVar 0) (tCons (dVar 1) (tCons (tOp (oIx K) (dVar 4) (tOp (oAdd K) (dVar 7) (tC (.int 1)))) (tCons (tOp (oIx K) (tOp (oIx K) (tOp (oIx K) (tOp (oIx K) (dVar 2) (tC (.int 0))) (dVar 7)) (dVar 9)) (tC (.int 0))) (tNil)))))) (gName 10))
    (stop (t__law_twin_b3_1 K E))
def t__law_twin_b2_2 (K : Frag) (E : XK) : TS :=
    tDrop (dML K mApp (dVar 6) (tCons (dVar 8) (tNil)))
def t__law_twin_b2_1 (K : Frag) (E : XK) : TS :=
    tSeq (dFor (iSeq K (tOp (oIx K) (dVar 4) (dVar 7))) (gName 9) (t__law_twin_b3 K E))
    (stop (t__law_twin_b2_2 K E))
def t__law_twin_b2 (K : Frag) (E : XK) : TS :=
    tSeq (tAsg (dLst (tNil)) (gName 8))
    (stop (t__law_twin_b2_1 K E))
def t__law_twin_6 (K : Frag) (E : XK) : TS :=
    tRet (dTup K (tCons (dVar 6) (tCons (dLc (iSeq K (tOp (oIx K) (dVar 4) (tCB (cLen K) (tCons (tOp (oIx K) (dVar 2) (tC (.int 0))) (tNil))))) (gName 9) (tYes) (tOp (oIx K) (tOp (oIx K) (dVar 2) (tC (.int 1))) (dVar 9)) [9]) (tNil))))
def t__law_twin_5 (K : Frag) (E : XK) : TS :=
    tSeq (dFor (iRng (tCons (tCB (cLen K) (tCons (tOp (oIx K) (dVar 2) (tC (.int 0))) (tNil))) (tNil))) (gName 7) (t__law_twin_b2 K E))
    (stop (t__law_twin_6 K E))
def t__law_twin_4 (K : Frag) (E : XK) : TS :=
    tSeq (tAsg (dLst (tNil)) (gName 6))
    (stop (t__law_twin_5 K E))
def t__law_twin_3 (K : Frag) (E : XK) : TS :=
    tSeq (tAsg (tOp (oAdd K) (dLst (tCons (tC (.int 0)) (tNil))) (tOp (oIx K) (dVar 4) (tC (.int 0)))) (gSub (dVar 4) (tC (.int 0)) oSet))
    (stop (t__law_twin_4 K E))
def t__law_twin_2 (K : Frag) (E : XK) : TS :=
    tSeq (dFor (iSeq K (dVar 3)) (gName 5) (t__law_twin_b1 K E))
    (stop (t__law_twin_3 K E))
def t__law_twin_1 (K : Frag) (E : XK) : TS :=
    tSeq (tAsg (dLst (tNil)) (gName 4))
    (stop (t__law_twin_2 K E))
def t__law_twin (K : Frag) (E : XK) : TS :=
    tSeq (tAsg (tOp (oAdd K) (dLc (iSeq K (tOp (oIx K) (dVar 2) (tC (.int 0)))) (gName 8) (tYes) (tCB (cLen K) (tCons (dVar 8) (tNil))) [8]) (dLst (tCons (tCB (cLen K) (tCons (tOp (oIx K) (dVar 2) (tC (.int 1))) (tNil))) (tNil)))) (gName 3))
    (stop (t__law_twin_1 K E))
end S
-- fn: _law_twin
-- law: k50
-- deps: _law_place K50m Lcg Fstay
namespace S
open PySem PySem.Spec PyProof.Rows L2
def sp__law_twin (K : Frag) : Sp := fun vs H Q _ => ∃ (a st r pl pe : Addr) (ls : Lvs) (es : Ends3) (H0 : Hp), vs = [.ref a, .ref st, .ref r] ∧ Ctx K H a st ∧ SqT K H r [.ref pl, .ref pe] ∧ TbR K H0 H pl pe ls es ∧ H0 st ≠ none ∧ okT ls es ∧ ls.length ≤ 6 ∧ (∀ ps ∈ ls, 1 ≤ ps.length ∧ ps.length ≤ 6) ∧ 1 ≤ es.length ∧ es.length ≤ 6 ∧
  ∀ (r2 ql qe : Addr) (ms : Lvs) (es2 : Ends3) (H' : Hp), SqT K H' r2 [.ref ql, .ref qe] → TbR K H H' ql qe ms es2 → okT ms es2 → ms.length = ls.length → gT (trees ms es2) 0 = gT (trees ls es) 0 → 0 < wid ms es2 → (∀ ps ∈ ms, ps.length ≤ 10) → es2.length ≤ 10 → Ctx K H' a st → SameX st H H' → Q (.ref r2) H'
/-- a twin's row -/
def RTw (ls : Lvs) (J : List (List Nat)) (k : Nat) (qs : List (Nat × Nat)) : Prop := ∀ ps, ls[k]? = some ps → qs.length = (J.getD k []).length ∧ ∀ (j n : Nat) (p q : Nat × Nat), (J.getD k [])[j]? = some n → ps[n]? = some p → qs[j]? = some q → (J.getD (k + 1) [])[q.1]? = some p.1 ∧ (J.getD (k + 1) [])[q.2]? = some p.2
/-- lists of numbers on the heap -/
def IdO (W : Hp) (x : Addr) (i : List Nat) : Prop := W x = some (.lst (intsN i))
theorem wid_get50 : ∀ (ls : Lvs) (es : Ends3) (i : Nat), i ≤ ls.length → (ls.map List.length ++ [es.length])[i]? = some (wid (ls.drop i) es)
  | [], es, 0, _ => rfl
  | [], _, _ + 1, h => absurd h (Nat.not_succ_le_zero _)
  | _ :: _, _, 0, _ => rfl
  | p :: ls, es, i + 1, h => by
    rw [List.map_cons, List.cons_append, List.getElem?_cons_succ]
    exact wid_get50 ls es i (Nat.le_of_succ_le_succ h)
section
variable {K : Frag} {E : XK} {Q : VK} {D : L2.Ends}
theorem pure__law_twin (vs : List V) (H : Hp) (Q : VK) (E : XK) (h : sp__law_twin K vs H Q E) : t__law_twin K E { nx := fun _ H' => Q .non H', rt := Q } (start ["_law_script", "_law_state", "_law_table_here", "_law_counts", "_law_ids_here", "_law_count", "_law_levels", "_law_k", "_law_pairs", "_law_node", "_law_low"] vs) H := by
  obtain ⟨a, st, r, pl, pe, ls, es, H0, rfl, hc, hr, hT, n0, ok, lm, hw, e1, e6, k⟩ := h
  obtain ⟨xs, hx, hL, fx⟩ := hT.lv
  have lx := hL.length
  have hE := hT.en
  have at0 : L2.atI [V.ref pl, .ref pe] 0 = some (.ref pl) := L2.atI_nat (j := 0) rfl
  have at1 : L2.atI [V.ref pl, .ref pe] 1 = some (.ref pe) := L2.atI_nat (j := 1) rfl
  have plst : pl ≠ st := fun z => n0 (z ▸ hT.nl)
  have pest : pe ≠ st := fun z => n0 (z ▸ hT.ne)
  obtain ⟨l0, hs0⟩ := ctx_st hc
  walk_at "gx"
  refine lc_gen (K := K) ls (fun _ => true) (fun a x => ∃ lv, x = V.ref lv ∧ LvR K H lv a) (fun D a y H => y = V.int (a.length : Nat)) (.inl (SqL.of hx)) (to_refs hL) (by rw [sizeLine_eq]; omega) (fun D a y H H' l _ h _ => h) ?_ ?_
  · rintro D l a x H2 A B _ hl ha ⟨lv, rfl, ts, hts, hrow⟩ e2 hA _
    have hts2 := e2 _ _ hts
    refine ⟨rfl, ?_⟩
    unfold tYes
    dsimp only
    rw [if_pos rfl]
    walk_at "gx"
    rw [List.length_map, hrow.length]
    exact hA _ _ (Same.refl _) rfl rfl
  intro D ys H2 nD hD hP e2
  rw [List.filter_eq_self.mpr fun _ _ => rfl] at hP
  have ey : ys = intsN (ls.map List.length) := by
    have gen : ∀ {as : Lvs} {ys : List V}, Paired (fun a y => y = V.int ((List.length a : Nat) : Int)) as ys → ys = intsN (as.map List.length) := by
      intro as ys h
      induction h with
      | nil => rfl
      | cons r _ ih => rw [r, ih]; rfl
    exact gen hP
  subst ey
  have hE2 := e2 _ _ hE
  have hr2 := Same.tup e2 hr
  walk_at "gx"
  refine ⟨fun u nu => ?_⟩
  have e3 := same_new (o := .lst [V.int ((es.map obV).length : Nat)]) nu
  refine Cat.l (e3 _ _ hD) upd_same (by unfold intsN; simp only [List.length_map, List.length_cons, List.length_nil, sizeLine_eq]; omega) fun q nq => ?_
  have e4 := e3.trans (same_new (o := .lst (intsN (ls.map List.length) ++ [V.int ((es.map obV).length : Nat)])) nq)
  have es0 : intsN (ls.map List.length) ++ [V.int ((es.map obV).length : Nat)] = intsN (ls.map List.length ++ [es.length]) := by unfold intsN; rw [List.map_append, List.length_map]; rfl
  rw [es0] at e4 ⊢
  have e5 := e2.trans e4
  generalize hG : upd (upd H2 u (.lst [V.int ((es.map obV).length : Nat)])) q (.lst (intsN (ls.map List.length ++ [es.length]))) = G at *
  have hq : G q = some (.lst (intsN (ls.map List.length ++ [es.length]))) := hG ▸ upd_same
  walk_at "gx"
  refine ⟨fun iq niq => ?_⟩
  have e7 := same_new (o := .lst []) niq
  have c7 := (hc.same e5).same e7
  have iqst := ctx_ne (hc.same e5) niq
  have niqH : H iq = none := nn_of e5 niq
  have qst : q ≠ st := fun z => by
    have := ctx_ne (hc.same (e2.trans e3)) nq
    exact this z
  have qiq : q ≠ iq := ne_of_none hq niq
  have lc : (ls.map List.length ++ [es.length]).length = ls.length + 1 := by simp
  have mc : ∀ c ∈ ls.map List.length ++ [es.length], 1 ≤ c ∧ c ≤ 6 := fun c hc => by
    rcases List.mem_append.mp hc with h | h
    · obtain ⟨ps, hp, rfl⟩ := List.mem_map.mp h; exact hw ps hp
    · rw [List.mem_singleton.mp h]; exact ⟨e1, e6⟩
  have wc : ∀ i, i ≤ ls.length → (ls.map List.length ++ [es.length])[i]? = some (wid (ls.drop i) es) := fun i hi => wid_get50 ls es i hi
  generalize ls.map List.length ++ [es.length] = cs at *
  have hq7 := e7 _ _ hq
  have e57 := e5.trans e7
  generalize hG2 : upd G iq (.lst []) = G2 at *
  have hiq7 : G2 iq = some (.lst []) := hG2 ▸ upd_same
  walk_at "gx"
  refine for_lst (K := K) (xs := intsN cs) (fun i σ W => ∃ (ys : List Addr) (I : List (List Nat)) (x5 : Option V), σ = [some (.ref a), some (.ref st), some (.ref r), some (.ref q), some (.ref iq), x5, none, none, none, none, none] ∧ W iq = some (.lst (ys.map V.ref)) ∧ Paired (IdO W) ys I ∧ (∀ y ∈ ys, y ≠ iq ∧ y ≠ st ∧ H y = none) ∧ I.length = i ∧ (∀ (j c : Nat) (ids : List Nat), cs[j]? = some c → I[j]? = some ids → (∀ n, n < c → n ∈ ids) ∧ (∀ n ∈ ids, n < c) ∧ ids.length ≤ c + 2) ∧ Ctx K W a st ∧ SameX st H W ∧ W q = some (.lst (intsN cs)))
    hq7 ⟨[], [], none, rfl, hiq7, .nil, (fun _ z => nomatch z), rfl, (fun _ _ _ _ z => by simp at z), c7, Same.x e57, hq7⟩ (fun i σ H1 ⟨_, _, _, _, _, _, _, _, _, _, _, z⟩ => z) ?_ ?_
  · rintro i y σ W hi ⟨ys, I, x5, rfl, hiq, hI, fy, lI, hd, cW, eW, hqW⟩
    obtain ⟨c, hci, rfl⟩ := lay_get (f := fun n : Nat => V.int (n : Int)) hi
    obtain ⟨c1, c6⟩ := mc c (List.mem_of_getElem? hci)
    have ily := hI.length
    have il : i < cs.length := (List.getElem?_eq_some_iff.mp hci).1
    walk_at "gx"
    refine ⟨a, st, c, rfl, cW, by omega, by omega, fun p ids W2 np hp h1 h2 lI2 c2 e8 => ?_⟩
    have pst := ctx_ne cW np
    have hiq2 := e8 _ _ hiq iqst
    have npH := none_of eW np pst
    have pni : p ≠ iq := fun z => by rw [z, hiq] at np; cases np
    have si : SameX iq W2 (upd W2 iq (.lst (ys.map V.ref ++ [.ref p]))) := SameX.upd
    walk_at "gx"
    refine ⟨ys ++ [p], I ++ [ids], _, rfl, by rw [upd_same, List.map_append]; rfl, ?_, fun y hy => ?_, by rw [List.length_append, lI]; rfl, ?_, c2.mut hc niqH, SameX.mut (eW.trans e8) niqH, si _ _ (e8 _ _ hqW qst) qiq⟩
    · exact Paired.snoc (paired_mem hI fun y i hy r => si _ _ (e8 _ _ r (fy y hy).2.1) (fy y hy).1) (si _ _ hp pni)
    · rcases List.mem_append.mp hy with hy | hy
      · exact fy y hy
      · rw [List.mem_singleton.mp hy]; exact ⟨pni, pst, npH⟩
    · intro j c' ids' hj hj2
      rcases Nat.lt_or_ge j I.length with hl | hl
      · rw [List.getElem?_append_left hl] at hj2; exact hd j c' ids' hj hj2
      · rw [List.getElem?_append_right hl] at hj2
        have h0 : j - I.length = 0 := by
          rcases Nat.eq_zero_or_pos (j - I.length) with e | e
          · exact e
          · rw [List.getElem?_eq_none (by rw [List.length_singleton]; exact e)] at hj2; cases hj2
        rw [h0] at hj2
        cases (Option.some.inj hj2 : ids = ids')
        have ej : j = i := by omega
        rw [ej, hci] at hj
        cases hj
        exact ⟨h1, h2, lI2⟩
  rintro σ W ⟨ys, I, x5, rfl, hiq, hI, fy, lI, hd, cW, eW, hqW⟩
  rw [intsN_len, lc] at lI
  have ly := hI.length
  obtain ⟨i0, I, rfl⟩ : ∃ i0 I', I = i0 :: I' := by cases I with
    | nil => simp at lI
    | cons i0 I => exact ⟨i0, I, rfl⟩
  obtain ⟨y0, ys, rfl⟩ : ∃ y0 ys', ys = y0 :: ys' := by cases ys with
    | nil => simp at ly
    | cons i0 I => exact ⟨i0, I, rfl⟩
  obtain ⟨hy0, hI⟩ : IdO W y0 i0 ∧ Paired (IdO W) ys I := by cases hI with | cons r t => exact ⟨r, t⟩
  have hy0 : W y0 = some (.lst (intsN i0)) := hy0
  have li0 := (hd 0 _ i0 (wc 0 (Nat.zero_le _)) rfl).2.2
  have wz := (mc _ (List.mem_of_getElem? (wc 0 (Nat.zero_le _)))).2
  walk_at "gx"
  refine ⟨fun z nz => ?_⟩
  have ez := same_new (o := .lst [V.int 0]) nz
  have hiqz := ez _ _ hiq
  have hy0z := ez _ _ hy0
  walk_at "gx"
  refine .of (L2.atI_nat (j := 0) rfl) ?_
  refine Cat.l (xs := [V.int 0]) upd_same hy0z (by rw [intsN_len, sizeLine_eq, List.length_singleton]; omega) fun p np => ?_
  have ep := same_new (o := .lst ([V.int 0] ++ intsN i0)) np
  have en0 : [V.int 0] ++ intsN i0 = intsN (0 :: i0) := rfl
  rw [en0] at ep ⊢
  have ezp := ez.trans ep
  have hiqp := ep _ _ hiqz
  have cWp := (cW.same ez).same ep
  have pst := ctx_ne (cW.same ez) np
  have npW : W p = none := nn_of ez np
  have npH := none_of eW npW pst
  have pni : p ≠ iq := fun z => by rw [z, hiqz] at np; cases np
  walk_at "gx"
  refine Pl.of (j := 0) (by unfold L2.ixN; rw [if_pos (by decide), if_pos (by simp only [List.length_map, List.length_cons]; omega)]; rfl) ?_
  generalize hG3 : upd (upd (upd W z (.lst [V.int 0])) p (.lst (intsN (0 :: i0)))) iq (.lst (((y0 :: ys).map V.ref).set 0 (.ref p))) = G3
  have sx : SameX iq W G3 := hG3 ▸ (Same.thenX ezp SameX.upd)
  have hiq3 : G3 iq = some (.lst ((p :: ys).map V.ref)) := hG3 ▸ upd_same
  have c3 : Ctx K G3 a st := hG3 ▸ cWp.mut hc niqH
  have e03 : SameX st H G3 := hG3 ▸ SameX.mut (eW.then ezp) niqH
  have hq3 := sx _ _ hqW qiq
  have hI3 : Paired (IdO G3) (p :: ys) ((0 :: i0) :: I) := by
    refine .cons ?_ (paired_mem hI fun y i hy r => sx _ _ r (fy y (List.mem_cons_of_mem _ hy)).1)
    rw [← hG3]
    exact up_of pni upd_same
  have fy3 : ∀ y ∈ p :: ys, y ≠ iq ∧ y ≠ st ∧ H y = none := fun y hy => by
    rcases List.mem_cons.mp hy with rfl | hy
    · exact ⟨pni, pst, npH⟩
    · exact fy y (List.mem_cons_of_mem _ hy)
  obtain ⟨J, hJ⟩ : ∃ J, J = (0 :: i0) :: I := ⟨_, rfl⟩
  have lJ : J.length = ls.length + 1 := by rw [hJ, List.length_cons]; simpa using lI
  have gJ : ∀ k, k ≤ ls.length → J[k]? = some (J.getD k []) := fun k hk => by
    rw [List.getD_eq_getElem?_getD, List.getElem?_eq_getElem (by omega)]; rfl
  have dJ : ∀ k, k ≤ ls.length → (∀ n, n < wid (ls.drop k) es → n ∈ J.getD k []) ∧ (∀ n ∈ J.getD k [], n < wid (ls.drop k) es) ∧ (J.getD k []).length ≤ 9 := fun k hk => by
    obtain ⟨w1, w6⟩ := mc _ (List.mem_of_getElem? (wc k hk))
    rcases k with _ | k
    · obtain ⟨a1, a2, a3⟩ := hd 0 _ i0 (wc 0 hk) rfl
      rw [hJ]
      refine ⟨fun n hn => List.mem_cons_of_mem _ (a1 n hn), fun n hn => ?_, by show i0.length + 1 ≤ 9; omega⟩
      rcases List.mem_cons.mp hn with rfl | hn
      · omega
      · exact a2 n hn
    · have g := gJ (k + 1) hk
      have e : J.getD (k + 1) [] = I.getD k [] := by rw [hJ]; rfl
      rw [e]
      have g2 : (i0 :: I)[k + 1]? = some (I.getD k []) := by rw [e, hJ] at g; exact g
      obtain ⟨a1, a2, a3⟩ := hd (k + 1) _ _ (wc (k + 1) hk) g2
      exact ⟨a1, a2, by omega⟩
  have J0 : (J.getD 0 [])[0]? = some 0 := by rw [hJ]; rfl
  rw [← hJ] at hI3
  generalize p :: ys = zs at *
  have lz := hI3.length
  walk_at "gx"
  refine ⟨fun lq nlq => ?_⟩
  have e9 := same_new (o := .lst []) nlq
  have lqst := ctx_ne c3 nlq
  have nlqH : H lq = none := none_of e03 nlq lqst
  have lqiq : lq ≠ iq := fun z => by rw [z, hiq3] at nlq; cases nlq
  have zlq : ∀ y ∈ zs, y ≠ lq := fun y hy z => by
    obtain ⟨_, h⟩ := paired_left hI3 hy
    have h : G3 y = some _ := h
    rw [z, nlq] at h; cases h
  have e39 := e03.then e9
  have stay : ∀ W, SameX st H W → SqT K W r [.ref pl, .ref pe] ∧ TbR K H0 W pl pe ls es := fun W e => ⟨SameX.tup e hr hs0, hT.x e hs0 n0⟩
  generalize hG4 : upd G3 lq (.lst []) = G4 at *
  have hlq4 : G4 lq = some (.lst []) := hG4 ▸ upd_same
  obtain ⟨hr4, hT4⟩ := stay G4 e39
  have hpl4 : G4 pl = some (.lst (xs.map V.ref)) := e39 _ _ hx plst
  walk_at "gx"
  refine for_rng (fun i σ W => ∃ (rs : List Addr) (ms : Lvs) (x7 x8 x9 x10 : Option V), σ = [some (.ref a), some (.ref st), some (.ref r), some (.ref q), some (.ref iq), x5, some (.ref lq), x7, x8, x9, x10] ∧ W lq = some (.lst (rs.map V.ref)) ∧ Paired (LvR K W) rs ms ∧ (∀ y ∈ rs, H y = none ∧ y ≠ lq) ∧ ms.length = i ∧ (∀ j qs, ms[j]? = some qs → RTw ls J j qs) ∧ Paired (IdO W) zs J ∧ W iq = some (.lst (zs.map V.ref)) ∧ Ctx K W a st ∧ SameX st H W)
    ⟨[], [], none, none, none, none, rfl, hlq4, .nil, (fun _ z => nomatch z), rfl, (fun _ _ z => by simp at z), Paired.mapP hI3 fun _ _ r => e9 _ _ r, e9 _ _ hiq3, c3.same e9, e39⟩ ?_ ?_
  · rintro k σ W hk ⟨rs, ms, x7, x8, x9, x10, rfl, hlq, hR, fr, lM, hm, hI, hiq, cW, eW⟩
    have hk : k < ls.length := by rw [List.length_map] at hk; omega
    have gz : zs[k]? = some zs[k] := List.getElem?_eq_getElem (by omega)
    have gz1 : zs[k + 1]? = some zs[k + 1] := List.getElem?_eq_getElem (by omega)
    have gi : ∀ W, Paired (IdO W) zs J → ∀ k (hk : k < zs.length), k ≤ ls.length → W zs[k] = some (.lst (intsN (J.getD k []))) := fun W h k hz hk => by
      obtain ⟨y, hy, r⟩ := lcg_at h (gJ k hk)
      rw [List.getElem?_eq_getElem hz] at hy
      cases hy
      exact r
    have gp : ls[k]? = some ls[k] := List.getElem?_eq_getElem hk
    walk_at "gx"
    refine ⟨fun pq npq => ?_⟩
    have ep := same_new (o := .lst []) npq
    have pqst := ctx_ne cW npq
    have npqH := none_of eW npq pqst
    have pqlq : pq ≠ lq := fun z => by rw [z, hlq] at npq; cases npq
    have pqiq : pq ≠ iq := fun z => by rw [z, hiq] at npq; cases npq
    have zpq : ∀ y ∈ zs, y ≠ pq := fun y hy z => by
      obtain ⟨_, h⟩ := paired_left hI hy
      have h : W y = some _ := h
      rw [z, npq] at h; cases h
    have rpq : ∀ y ∈ rs, y ≠ pq := fun y hy z => by
      obtain ⟨_, _, h, _⟩ := paired_left hR hy
      rw [z, npq] at h; cases h
    have hiqp := ep _ _ hiq
    have hzk := ep _ _ (gi W hI k (by omega) (Nat.le_of_lt hk))
    have lsts := dJ k (Nat.le_of_lt hk)
    have lsts1 := dJ (k + 1) hk
    obtain ⟨lv, hlv, hl⟩ := lcg_at hL gp
    have lvst : lv ≠ st := fun z => n0 (z ▸ fx lv (List.mem_of_getElem? hlv))
    have ok2 := okT.drop k ok
    rw [drop_cons gp] at ok2
    rw [drop_cons gp] at lsts
    walk_at "gx"
    refine .of (L2.atI_nat (by rw [List.getElem?_map, gz]; rfl)) ?_
    refine for_lst (K := K) (xs := intsN (J.getD k [])) (fun i σ W2 => ∃ (ts : List Addr) (qs : List (Nat × Nat)) (x9 x10 : Option V), σ = [some (.ref a), some (.ref st), some (.ref r), some (.ref q), some (.ref iq), x5, some (.ref lq), some (.int (k : Int)), some (.ref pq), x9, x10] ∧ W2 pq = some (.lst (ts.map V.ref)) ∧ Paired (RowT K W2) ts qs ∧ qs.length = i ∧ (∀ (j n : Nat) (p q : Nat × Nat), (J.getD k [])[j]? = some n → ls[k][n]? = some p → qs[j]? = some q → (J.getD (k + 1) [])[q.1]? = some p.1 ∧ (J.getD (k + 1) [])[q.2]? = some p.2) ∧ W2 lq = some (.lst (rs.map V.ref)) ∧ Paired (LvR K W2) rs ms ∧ Paired (IdO W2) zs J ∧ W2 iq = some (.lst (zs.map V.ref)) ∧ Ctx K W2 a st ∧ SameX st H W2)
      hzk ⟨[], [], x9, x10, rfl, upd_same, .nil, rfl, (fun _ _ _ _ _ _ z => by simp at z), ep _ _ hlq, Paired.mapP hR fun _ _ r => r.same ep, Paired.mapP hI fun _ _ r => ep _ _ r, hiqp, cW.same ep, eW.then ep⟩ (fun i σ W2 ⟨_, _, _, _, _, _, _, _, _, _, _, hI2, _⟩ => gi W2 hI2 k (by omega) (Nat.le_of_lt hk)) ?_ ?_
    · rintro i y σ W2 hi ⟨ts, qs, x9, x10, rfl, hpq, hT2, lq2, hq2, hlq2, hR2, hI2, hiq2, c2, e2⟩
      obtain ⟨n, hn, rfl⟩ := lay_get (f := fun n : Nat => V.int (n : Int)) hi
      have nm := List.mem_of_getElem? hn
      have nl : n < ls[k].length := lsts.2.1 n nm
      have gn : ls[k][n]? = some ls[k][n] := List.getElem?_eq_getElem nl
      obtain ⟨o1, o2⟩ := ok2.1 _ (List.getElem_mem nl)
      have il : i < (J.getD k []).length := (List.getElem?_eq_some_iff.mp hn).1
      have lT2 := hT2.length
      have get : ∀ W, SameX st H W → ∃ (tt : List Addr) (t : Addr), W lv = some (.lst (tt.map V.ref)) ∧ tt[n]? = some t ∧ SqT K W t [.int (ls[k][n].1 : Int), .int (ls[k][n].2 : Int)] := fun W e => by
        obtain ⟨tt, htt, hrow⟩ := hl.x e hs0 lvst
        obtain ⟨t, ht, h⟩ := lcg_at hrow gn
        exact ⟨tt, t, htt, ht, h⟩
      obtain ⟨tt, t, htt, ht, htr⟩ := get W2 e2
      obtain ⟨hr2, _⟩ := stay W2 e2
      have hpl2 : W2 pl = some (.lst (xs.map V.ref)) := e2 _ _ hx plst
      have hz2 := gi W2 hI2 (k + 1) (by omega) hk
      have zst := fy3 zs[k + 1] (List.getElem_mem _)
      walk_at "gx"
      refine .of (L2.atI_nat (j := k + 1) (by rw [List.getElem?_map, gz1]; rfl)) ?_
      walk_at "gx"
      refine .of (L2.atI_nat (by rw [List.getElem?_map, hlv]; rfl)) ?_
      walk_at "gx"
      refine .of (L2.atI_nat (by rw [List.getElem?_map, ht]; rfl)) ?_
      walk_at "gx"
      refine ⟨a, st, zs[k + 1], J.getD (k + 1) [], ls[k][n].1, rfl, c2, hz2, zst.2.1, lsts1.1 _ o1, by omega, fun lo W3 hlo c4 e4 => ?_⟩
      have e24 := e2.trans e4
      obtain ⟨tt', t', htt', ht', htr'⟩ := get W3 e24
      obtain ⟨hr3, _⟩ := stay W3 e24
      have hpl3 : W3 pl = some (.lst (xs.map V.ref)) := e24 _ _ hx plst
      have hI4 : Paired (IdO W3) zs J := paired_mem hI2 fun y _ hy r => e4 _ _ r (fy3 y hy).2.1
      have hz3 := gi W3 hI4 (k + 1) (by omega) hk
      have hiq3' := e4 _ _ hiq2 iqst
      have hpq3 := e4 _ _ hpq pqst
      walk_at "gx"
      refine .of (L2.atI_nat (j := k + 1) (by rw [List.getElem?_map, gz1]; rfl)) ?_
      walk_at "gx"
      refine .of (L2.atI_nat (by rw [List.getElem?_map, hlv]; rfl)) ?_
      walk_at "gx"
      refine .of (L2.atI_nat (by rw [List.getElem?_map, ht']; rfl)) ?_
      walk_at "gx"
      refine ⟨a, st, zs[k + 1], J.getD (k + 1) [], ls[k][n].2, rfl, c4, hz3, zst.2.1, lsts1.1 _ o2, by omega, fun hi2 W4 hhi c5 e5 => ?_⟩
      walk_at "gx"
      refine ⟨fun t W5 e6 ht => ?_⟩
      have e46 : SameX st W2 W5 := (e4.trans e5).then e6
      have hpq5 := e46 _ _ hpq pqst
      have si : SameX pq W5 (upd W5 pq (.lst (ts.map V.ref ++ [.ref t]))) := SameX.upd
      obtain ⟨l2, hs2⟩ := ctx_st c2
      walk_at "gx"
      refine ⟨ts ++ [t], qs ++ [(lo, hi2)], _, _, rfl, by rw [upd_same, List.map_append]; rfl, ?_, by rw [List.length_append, lq2]; rfl, ?_, si _ _ (e46 _ _ hlq2 lqst) pqlq.symm, ?_, ?_, si _ _ (e46 _ _ hiq2 iqst) pqiq.symm, (c5.same e6).mut hc npqH, SameX.mut (e2.trans e46) npqH⟩
      · exact Paired.snoc (Paired.mapP hT2 fun _ _ r => SameX.tup si (SameX.tup e46 r hs2) hpq5) (SameX.tup si ht hpq5)
      · intro j n' p' q' h1 h2 h3
        rcases Nat.lt_or_ge j qs.length with hl | hl
        · rw [List.getElem?_append_left hl] at h3; exact hq2 j n' p' q' h1 h2 h3
        · rw [List.getElem?_append_right hl] at h3
          have h0 : j - qs.length = 0 := by
            rcases Nat.eq_zero_or_pos (j - qs.length) with e | e
            · exact e
            · rw [List.getElem?_eq_none (by rw [List.length_singleton]; exact e)] at h3; cases h3
          rw [h0] at h3
          cases (Option.some.inj h3 : (lo, hi2) = q')
          have ej : j = i := by omega
          rw [ej, hn] at h1
          cases h1
          rw [gn] at h2
          cases h2
          exact ⟨hlo, hhi⟩
      · exact paired_mem hR2 fun y _ hy r => (r.x e46 hs2 (ctx_ne hc (fr y hy).1)).x si hpq5 (rpq y hy)
      · exact paired_mem hI2 fun y _ hy r => si _ _ (e46 _ _ r (fy3 y hy).2.1) (zpq y hy)
    · rintro σ W2 ⟨ts, qs, x9, x10, rfl, hpq, hT2, lq2, hq2, hlq2, hR2, hI2, hiq2, c2, e2⟩
      rw [intsN_len] at lq2
      have lR2 := hR2.length
      have si : SameX lq W2 (upd W2 lq (.lst (rs.map V.ref ++ [.ref pq]))) := SameX.upd
      walk_at "gx"
      refine ⟨rs ++ [pq], ms ++ [qs], _, _, _, _, rfl, by rw [upd_same, List.map_append]; rfl, ?_, fun y hy => ?_, by rw [List.length_append, lM]; rfl, ?_, ?_, si _ _ hiq2 lqiq.symm, c2.mut hc nlqH, SameX.mut e2 nlqH⟩
      · refine Paired.snoc (paired_mem hR2 fun y _ hy r => r.x si hlq2 (fr y hy).2) ?_
        exact LvR.x ⟨ts, hpq, hT2⟩ si hlq2 pqlq
      · rcases List.mem_append.mp hy with hy | hy
        · exact fr y hy
        · rw [List.mem_singleton.mp hy]; exact ⟨npqH, pqlq⟩
      · intro j qs' hj
        rcases Nat.lt_or_ge j ms.length with hl | hl
        · rw [List.getElem?_append_left hl] at hj; exact hm j qs' hj
        · rw [List.getElem?_append_right hl] at hj
          have h0 : j - ms.length = 0 := by
            rcases Nat.eq_zero_or_pos (j - ms.length) with e | e
            · exact e
            · rw [List.getElem?_eq_none (by rw [List.length_singleton]; exact e)] at hj; cases hj
          rw [h0] at hj
          cases (Option.some.inj hj : qs = qs')
          rw [show j = k from by omega]
          intro ps hps
          rw [gp] at hps
          cases hps
          exact ⟨lq2, hq2⟩
      · exact paired_mem hI2 fun y _ hy r => si _ _ r (zlq y hy)
  · rintro σ W ⟨rs, ms, x7, x8, x9, x10, rfl, hlq, hR, fr, lM, hm, hI, hiq, cW, eW⟩
    have lM : ms.length = ls.length := by rw [lM, List.length_map, lx]; rfl
    obtain ⟨hr6, hT6⟩ := stay W eW
    have hpl6 : W pl = some (.lst (xs.map V.ref)) := eW _ _ hx plst
    have gz : zs[ls.length]? = some (zs[ls.length]'(by omega)) := List.getElem?_eq_getElem _
    obtain ⟨y, hy, hI6⟩ := lcg_at hI (gJ ls.length (Nat.le_refl _))
    have hI6 : W y = some (.lst (intsN (J.getD ls.length []))) := hI6
    obtain ⟨dm1, dm2, dm3⟩ := dJ ls.length (Nat.le_refl _)
    rw [List.drop_length] at dm2
    have dm2 : ∀ n ∈ J.getD ls.length [], n < es.length := dm2
    walk_at "gx"
    rw [List.length_map, lx]
    refine .of (L2.atI_nat (by rw [List.getElem?_map, hy]; rfl)) ?_
    refine lc_dat (J.getD ls.length []) (fun n : Nat => V.int (n : Int)) (fun D n y H => y = obV (es.getD n none)) (.inl (SqL.of hI6)) (by rw [sizeLine_eq]; omega) (fun D a y H H' l _ h _ => h) ?_ ?_
    · intro D l j n W2 A hD hl hj e7 hA
      have nl := dm2 n (List.mem_of_getElem? hj)
      have hr7 := Same.tup e7 hr6
      have hE7 := e7 _ _ hT6.en
      refine ⟨rfl, ?_⟩
      walk_at "gx"
      refine .of (L2.atI_nat (by rw [List.getElem?_map, List.getElem?_eq_getElem nl]; rfl)) ?_
      refine hA _ _ (Same.refl _) ?_
      rw [List.getD_eq_getElem?_getD, List.getElem?_eq_getElem nl]; rfl
    · intro qe ys W2 nqe hqe hP e7
      have ey : ys = ((J.getD ls.length []).map fun n => es.getD n none).map obV := by
        have gen : ∀ {as : List Nat} {ys : List V}, Paired (fun n y => y = obV (es.getD n none)) as ys → ys = (as.map fun n => es.getD n none).map obV := by
          intro as ys h
          induction h with
          | nil => rfl
          | cons r _ ih => rw [r, ih]; rfl
        exact gen hP
      subst ey
      walk_at "gx"
      refine ⟨fun r2 W3 e8 hr2 => ?_⟩
      have e78 := e7.trans e8
      have tf : TwF ls es (fun k => J.getD k []) ms := ⟨lM, fun k hk => (dJ k hk).2.1, fun k ps qs h1 h2 => hm k qs h2 ps h1⟩
      obtain ⟨t1, t2⟩ := tw_trees ok tf ls.length 0 (Nat.zero_add _)
      rw [List.drop_zero] at t1 t2
      rw [List.drop_zero] at t1
      have nqeH : H qe = none := none_of eW nqe (ctx_ne cW nqe)
      have bd : ∀ ps ∈ ms, ps.length ≤ 10 := fun ps hps => by
        obtain ⟨k, hk, rfl⟩ := List.mem_iff_getElem.mp hps
        have g2 : ls[k]? = some (ls[k]'(by omega)) := List.getElem?_eq_getElem _
        rw [(hm k _ (List.getElem?_eq_getElem hk) _ g2).1]
        have := (dJ k (by omega)).2.2
        omega
      refine k r2 lq qe ms _ W3 hr2 ⟨⟨rs, e78 _ _ hlq, Paired.mapP hR fun _ _ r => r.same e78, fun y hy => (fr y hy).1⟩, e8 _ _ hqe, nlqH, nqeH⟩ t2 lM ?_ ?_ bd (by rw [List.length_map]; omega) (cW.same e78) (eW.then e78)
      · rw [t1]
        show gT ((J.getD 0 []).map (gT (trees ls es))) 0 = _
        exact gT_map J0
      · rw [← trees_len, t1, List.length_map]
        exact (List.getElem?_eq_some_iff.mp J0).1
end
end S
-- deps: Lcg Tbl
/-! ## a comprehension that makes a new object for each item: all are different -/
namespace S
open PySem PySem.Spec PyProof.Rows L2
theorem paired_rmem {α β : Type} {R : α → β → Prop} : ∀ {as : List α} {bs : List β} {b : β}, Paired R as bs → b ∈ bs → ∃ a, a ∈ as ∧ R a b
  | _, _, _, .nil, h => nomatch h
  | _, _, _, .cons r t, h => (List.mem_cons.mp h).elim (fun e => ⟨_, List.mem_cons_self, e ▸ r⟩) fun h => let ⟨a, m, r⟩ := paired_rmem t h; ⟨a, List.mem_cons_of_mem _ m, r⟩
theorem lc_genN {α : Type} {K : Frag} {p : Addr} {xs : List V} {g : TG} {tt : TT} {te : TE} {vs : List Nat} {σ : L2.St} {H1 : Hp} {Q : VK} (as : List α) (P : α → V → Prop) (R : Addr → α → V → Hp → Prop) (hx : SqA K H1 p xs) (hb : Paired P as xs) (hz : as.length < sizeLine)
    (mono : ∀ D a y H H' l, H D = some (.lst l) → R D a y H → SameX D H H' → R D a y H')
    (al : ∀ D a y H, R D a y H → ∃ b, y = .ref b ∧ H b ≠ none)
    (hs : ∀ (D : Addr) (l : List V) (a : α) (x : V) (H : Hp) (A : V → Hp → Prop) (B : Hp → Prop), H1 D = none → H D = some (.lst l) → a ∈ as → P a x → Same H1 H → (∀ b H', Same H H' → H b = none → R D a (.ref b) H' → A (.ref b) H') →
      g x (wipe σ vs) H fun σ2 H2 => wipe σ2 vs = wipe σ vs ∧ tt σ2 H2 fun b H3 => if b = true then te σ2 H3 A else B H3)
    (hd : ∀ D ys H', H1 D = none → H' D = some (.lst ys) → Paired (fun a y => R D a y H') as ys → ys.Nodup → Same H1 H' → Q (.ref D) H') :
    Walk K H1 p (Wr (LcGo g tt te vs σ Q)) := by
  have lz := hb.length
  refine lc_seq hx fun D hD => ⟨fun j H => ∃ ys, H D = some (.lst ys) ∧ Paired (fun a y => R D a y H) (as.take j) ys ∧ ys.Nodup ∧ Same H1 H, ⟨[], upd_same, by rw [List.take_zero]; exact .nil, .nil, same_new hD⟩, fun i H _ ⟨_, _, _, _, e⟩ ys => ⟨e.seq, Same.tup e⟩, ?_, fun H ⟨ys, h1, h2, n, e⟩ => hd D ys H hD h1 (by rw [← lz, List.take_length] at h2; exact h2) n e⟩
  rintro j x H hi ⟨ys, h1, h2, nd, e⟩
  obtain ⟨a, hj, hP⟩ := lcg_at hb hi
  have hil : j < as.length := (List.getElem?_eq_some_iff.mp hj).1
  have hlen : ys.length ≤ j := by
    rw [← h2.length, List.length_take]; exact Nat.min_le_left _ _
  refine hs D ys a x H _ _ hD h1 (List.mem_of_getElem? hj) hP e (fun b H' e2 nb r => ?_)
  have si : SameX D H' (L2.upd H' D (.lst (ys ++ [.ref b]))) := SameX.upd
  refine ⟨ys, e2 _ _ h1, by omega, ys ++ [.ref b], upd_same, ?_, ?_, fun b o hb => ?_⟩
  · rw [List.take_add_one, hj]
    exact Paired.snoc (Paired.mapP h2 fun a b r => mono _ _ _ _ _ _ h1 r (Same.thenX e2 si)) (mono _ _ _ _ _ _ (e2 _ _ h1) r si)
  · rw [List.nodup_append]
    refine ⟨nd, by simp, fun u hu v hv => ?_⟩
    rw [List.mem_singleton.mp hv]
    rintro rfl
    obtain ⟨a', _, r'⟩ := paired_rmem h2 hu
    obtain ⟨b', eb, nb'⟩ := al _ _ _ _ r'
    cases eb
    exact nb' nb
  · rw [upd_ne (ne_of_none hb hD)]
    exact e2 _ _ (e _ _ hb)
/-- one of the items changes -/
theorem paired_setN {α β : Type} {R S : α → β → Prop} {b : β} : ∀ {as : List α} {bs : List β} {u : Nat} {a : α}, Paired R as bs → as.Nodup → as[u]? = some a → (∀ x y, x ≠ a → x ∈ as → R x y → S x y) → S a b → Paired S as (bs.set u b)
  | [], _, _, _, _, _, h, _, _ => by simp at h
  | x :: as, _, 0, a, .cons r t, nd, h, k, s => by
    have h : x = a := by simpa using h
    subst h
    rw [List.nodup_cons] at nd
    exact .cons s (paired_mem t fun a b ha r => k _ _ (fun z => nd.1 (z ▸ ha)) (List.mem_cons_of_mem _ ha) r)
  | x :: as, _, u + 1, a, .cons r t, nd, h, k, s => by
    rw [List.getElem?_cons_succ] at h
    rw [List.nodup_cons] at nd
    exact .cons (k _ _ (fun z => nd.1 (z ▸ List.mem_of_getElem? h)) List.mem_cons_self r) (paired_setN t nd.2 h (fun x y h1 h2 => k x y h1 (List.mem_cons_of_mem _ h2)) s)
end S
namespace S
open PySem PySem.Spec PyProof.Rows L2
def t__law_changed_3 (K : Frag) (E : XK) : TS :=
    tRet (dTup K (tCons (dVar 3) (tCons (dVar 4) (tNil))))
def t__law_changed_2 (K : Frag) (E : XK) : TS :=
    tSeq (dIfS (dAnd (dCmpT (oEq K) (dCall (sp__law_draw K) (EW E) (tCons (dVar 0) (tCons (dVar 1) (tCons (tC (.int 2)) (tNil))))) (tC (.int 1))) (dCmpT oGt (tCB (cLen K) (tCons (dVar 3) (tNil))) (tC (.int 0)))) (tSeq (tAsg (dCall (sp__law_draw K) (EW E) (tCons (dVar 0) (tCons (dVar 1) (tCons (tCB (cLen K) (tCons (dVar 3) (tNil))) (tNil))))) (gName 5))
    (tSeq (tAsg (dCall (sp__law_draw K) (EW E) (tCons (dVar 0) (tCons (dVar 1) (tCons (tCB (cLen K) (tCons (tOp (oIx K) (dVar 3) (dVar 5)) (tNil))) (tNil))))) (gName 6))
    (tSeq (tAsg (tCB (cLen K) (tCons (dVar 4) (tNil))) (gName 7))
    (tSeq (dIfS (dCmpT oLt (tOp (oAdd K) (dVar 5) (tC (.int 1))) (tCB (cLen K) (tCons (dVar 3) (tNil)))) (tAsg (tCB (cLen K) (tCons (tOp (oIx K) (dVar 3) (tOp (oAdd K) (dVar 5) (tC (.int 1)))) (tNil))) (gName 7)) (tNext))
    (tSeq (tAsg (tOp (oIx K) (dVar 3) (dVar 5)) (gName 8))
    (tAsg (dTup K (tCons (tOp (oIx K) (tOp (oIx K) (dVar 8) (dVar 6)) (tC (.int 0))) (tCons (dCall (sp__law_draw K) (EW E) (tCons (dVar 0) (tCons (dVar 1) (tCons (dVar 7) (tNil))))) (tNil)))) (gSub (dVar 8) (dVar 6) oSet))))))) (tSeq (tAsg (dCall (sp__law_draw K) (EW E) (tCons (dVar 0) (tCons (dVar 1) (tCons (tCB (cLen K) (tCons (dVar 4) (tNil))) (tNil))))) (gName 9))
    (dIfS (dCmpT oIsT (tOp (oIx K) (dVar 4) (dVar 9)) (tC (.bl true))) (tAsg (tC (.bl false)) (gSub (dVar 4) (dVar 9) oSet)) (dIfS (dCmpT oIsT (tOp (oIx K) (dVar 4) (dVar 9)) (tC (.bl false))) (tAsg (tC .non) (gSub (dVar 4) (dVar 9) oSet)) (tAsg (tC (.bl true)) (gSub (dVar 4) (dVar 9) oSet))))))
    (stop (t__law_changed_3 K E))
def t__law_changed_1 (K : Frag) (E : XK) : TS :=
    tSeq (tAsg (tCB (cList K) (tCons (tOp (oIx K) (dVar 2) (tC (.int 1))) (tNil))) (gName 4))
    (stop (t__law_changed_2 K E))
def t__law_changed (K : Frag) (E : XK) : TS :=
    tSeq (tAsg (dLc (iSeq K (tOp (oIx K) (dVar 2) (tC (.int 0)))) (gName 8) (tYes) (tCB (cList K) (tCons (dVar 8) (tNil))) [8]) (gName 3))
    (stop (t__law_changed_1 K E))
end S
-- fn: _law_changed
-- law: k50
-- deps: _law_twin_k50 Lcn
namespace S
open PySem PySem.Spec PyProof.Rows L2
def sp__law_changed (K : Frag) : Sp := fun vs H Q _ => ∃ (a st r pl pe : Addr) (ls : Lvs) (es : Ends3) (H0 : Hp), vs = [.ref a, .ref st, .ref r] ∧ Ctx K H a st ∧ SqT K H r [.ref pl, .ref pe] ∧ TbR K H0 H pl pe ls es ∧ H0 st ≠ none ∧ okT ls es ∧ ls.length ≤ 6 ∧ (∀ ps ∈ ls, 1 ≤ ps.length ∧ ps.length ≤ 6) ∧ 1 ≤ es.length ∧ es.length ≤ 6 ∧
  ∀ (r2 ql qe : Addr) (ms : Lvs) (es2 : Ends3) (H' : Hp), SqT K H' r2 [.ref ql, .ref qe] → TbE false K H' ql ms → SqL K H' qe (es2.map obV) → okT ms es2 → ms.length = ls.length → 0 < wid ms es2 → (∀ ps ∈ ms, ps.length ≤ 6) → es2.length ≤ 6 → Ctx K H' a st → SameX st H H' → Q (.ref r2) H'
theorem mem_set50 {α : Type} {x b : α} : ∀ {l : List α} {j : Nat}, x ∈ l.set j b → x ∈ l ∨ x = b
  | [], _, h => by simp at h
  | y :: r, 0, h => by
    rcases List.mem_cons.mp h with h | h
    · exact .inr h
    · exact .inl (List.mem_cons_of_mem _ h)
  | y :: r, j + 1, h => by
    have h : x ∈ y :: r.set j b := h
    rcases List.mem_cons.mp h with h | h
    · exact .inl (h ▸ List.mem_cons_self)
    · exact (mem_set50 h).elim (fun h => .inl (List.mem_cons_of_mem _ h)) .inr
theorem paired_set50 {α β : Type} {P : α → β → Prop} {a : α} {b : β} : ∀ {as : List α} {bs : List β} (j : Nat), Paired P as bs → P a b → Paired P (as.set j a) (bs.set j b)
  | _, _, _, .nil, _ => .nil
  | _, _, 0, .cons _ t, h => .cons h t
  | _, _, j + 1, .cons r t, h => .cons r (paired_set50 j t h)
theorem wid_len {es es' : Ends3} (e : es.length = es'.length) : ∀ ls : Lvs, wid ls es = wid ls es'
  | [] => e
  | _ :: _ => rfl
theorem okT_len {es es' : Ends3} (e : es.length = es'.length) : ∀ {ls : Lvs}, okT ls es → okT ls es'
  | [], _ => True.intro
  | p :: ls, h => ⟨fun q hq => by rw [← wid_len e ls]; exact h.1 q hq, okT_len e h.2⟩
theorem wid_set {es : Ends3} {qs : List (Nat × Nat)} : ∀ {ls : Lvs} {k : Nat} {ps : List (Nat × Nat)}, ls[k]? = some ps → qs.length = ps.length → wid (ls.set k qs) es = wid ls es
  | [], _, _, h, _ => by simp at h
  | p :: ls, 0, ps, h, e => by
    have h : p = ps := by simpa using h
    show qs.length = p.length
    rw [e, h]
  | p :: ls, k + 1, ps, _, _ => rfl
theorem okT_set {es : Ends3} {qs : List (Nat × Nat)} : ∀ {ls : Lvs} {k : Nat} {ps : List (Nat × Nat)}, okT ls es → ls[k]? = some ps → qs.length = ps.length → (∀ q ∈ qs, q.1 < wid (ls.drop (k + 1)) es ∧ q.2 < wid (ls.drop (k + 1)) es) → okT (ls.set k qs) es
  | [], _, _, _, h, _, _ => by simp at h
  | p :: ls, 0, ps, ok, h, e, hq => ⟨hq, ok.2⟩
  | p :: ls, k + 1, ps, ok, h, e, hq => by
    rw [List.getElem?_cons_succ] at h
    refine ⟨fun q hq2 => ?_, okT_set (ls := ls) ok.2 h e hq⟩
    show q.1 < wid (ls.set k qs) es ∧ _
    rw [wid_set h e]
    exact ok.1 q hq2
def chgB (K : Frag) (E : XK) : TS :=
    (tSeq (tAsg (dCall (sp__law_draw K) (EW E) (tCons (dVar 0) (tCons (dVar 1) (tCons (tCB (cLen K) (tCons (dVar 4) (tNil))) (tNil))))) (gName 9))
    (dIfS (dCmpT oIsT (tOp (oIx K) (dVar 4) (dVar 9)) (tC (.bl true))) (tAsg (tC (.bl false)) (gSub (dVar 4) (dVar 9) oSet)) (dIfS (dCmpT oIsT (tOp (oIx K) (dVar 4) (dVar 9)) (tC (.bl false))) (tAsg (tC .non) (gSub (dVar 4) (dVar 9) oSet)) (tAsg (tC (.bl true)) (gSub (dVar 4) (dVar 9) oSet)))))
theorem nd_of_map {α β : Type} {f : α → β} : ∀ {l : List α}, (l.map f).Nodup → l.Nodup
  | [], _ => .nil
  | a :: l, h => by
    rw [List.map_cons, List.nodup_cons] at h
    exact List.nodup_cons.mpr ⟨fun m => h.1 (List.mem_map_of_mem m), nd_of_map h.2⟩
theorem ix50 {n j : Nat} (h : j < n) : L2.ixN n (j : Int) = some j := by
  unfold L2.ixN
  rw [if_pos (by omega), if_pos (by omega)]; rfl
section
variable {K : Frag} {E : XK} {Q : VK} {D : L2.Ends}
theorem pure__law_changed (vs : List V) (H : Hp) (Q : VK) (E : XK) (h : sp__law_changed K vs H Q E) : t__law_changed K E { nx := fun _ H' => Q .non H', rt := Q } (start ["_law_script", "_law_state", "_law_table_here", "_law_levels", "_law_ends", "_law_level", "_law_node", "_law_below", "_law_pairs", "_law_at"] vs) H := by
  obtain ⟨a, st, r, pl, pe, ls, es, H0, rfl, hc, hr, hT, n0, ok, lm, hw, e1, e6', k⟩ := h
  obtain ⟨xs, hx, hL, fx⟩ := hT.lv
  have lx := hL.length
  have hE := hT.en
  have at0 : L2.atI [V.ref pl, .ref pe] 0 = some (.ref pl) := L2.atI_nat (j := 0) rfl
  have at1 : L2.atI [V.ref pl, .ref pe] 1 = some (.ref pe) := L2.atI_nat (j := 1) rfl
  walk_at "gx"
  refine lc_genN (K := K) ls (fun a x => ∃ lv, x = V.ref lv ∧ LvR K H lv a) (fun D a y W => ∃ b, y = V.ref b ∧ b ≠ D ∧ H b = none ∧ LvR K W b a) (.inl (SqL.of hx)) (to_refs hL) (by rw [sizeLine_eq]; omega) ?_ ?_ ?_ ?_
  · rintro D a y H H' l hD ⟨b, rfl, nb, nbH, hb⟩ ex
    exact ⟨b, rfl, nb, nbH, hb.x ex hD nb⟩
  · rintro D a y W ⟨b, rfl, _, _, _, h, _⟩
    exact ⟨b, rfl, by rw [h]; exact fun z => nomatch z⟩
  · rintro D l a x H3 A B _ hl ha ⟨lv, rfl, hlv⟩ e2 hA
    obtain ⟨ts, hts, hrow⟩ := hlv.same e2
    refine ⟨rfl, ?_⟩
    unfold tYes
    dsimp only
    rw [if_pos rfl]
    walk_at "gx"
    refine ⟨fun b nb => ?_⟩
    have e3 := same_new (o := .lst (ts.map V.ref)) nb
    exact hA _ _ e3 nb ⟨b, rfl, (ne_of_none hl nb).symm, nn_of e2 nb, ts, upd_same, Paired.mapP hrow fun _ _ r => RowT.same r e3⟩
  intro D ys H3 nD hD hP ndy e2
  obtain ⟨bs, rfl, hbs⟩ := refs_of hP
  have ndb : bs.Nodup := nd_of_map ndy
  have lb := hbs.length
  have hE3 := e2 _ _ hE
  have hr3 := Same.tup e2 hr
  walk_at "gx"
  refine ⟨fun bk nbk => ?_⟩
  have e3 := same_new (o := .lst (es.map obV)) nbk
  have e23 := e2.trans e3
  have c3 := hc.same e23
  have nbkH := nn_of e2 nbk
  have Dst := ctx_ne hc nD
  have bkst := ctx_ne hc nbkH
  have dDb : D ≠ bk := ne_of_none hD nbk
  obtain ⟨l3, hs3⟩ := ctx_st c3
  generalize hG : upd H3 bk (.lst (es.map obV)) = G at *
  have hDG : G D = some (.lst (bs.map V.ref)) := e3 _ _ hD
  have hbk : G bk = some (.lst (es.map obV)) := hG ▸ upd_same
  have hb3 : Paired (fun b ps => b ≠ D ∧ H b = none ∧ b ≠ bk ∧ LvR K G b ps) bs ls := Paired.mapP hbs fun b ps ⟨h1, h2, h3⟩ => ⟨h1, h2, (fun z => by rw [z] at h3; obtain ⟨_, h, _⟩ := h3; rw [nbk] at h; cases h), h3.same e3⟩
  have geW : ∀ W, SameX st G W → W D = some (.lst (bs.map V.ref)) ∧ W bk = some (.lst (es.map obV)) ∧ Paired (fun b ps => b ≠ D ∧ H b = none ∧ b ≠ bk ∧ LvR K W b ps) bs ls := fun W e => ⟨e _ _ hDG Dst, e _ _ hbk bkst, Paired.mapP hb3 fun b ps ⟨h1, h2, h3, h4⟩ => ⟨h1, h2, h3, h4.x e hs3 (ctx_ne hc h2)⟩⟩
  have fin : ∀ (W : Hp) (ms : Lvs) (es2 : Ends3) (x5 x6 x7 x8 x9 : Option V), W D = some (.lst (bs.map V.ref)) → W bk = some (.lst (es2.map obV)) → Paired (LvR K W) bs ms → okT ms es2 → ms.length = ls.length → 0 < wid ms es2 → (∀ ps ∈ ms, ps.length ≤ 6) → es2.length ≤ 6 → Ctx K W a st → SameX st H W →
      t__law_changed_3 K E { nx := fun _ H' => Q .non H', rt := Q } [some (.ref a), some (.ref st), some (.ref r), some (.ref D), some (.ref bk), x5, x6, x7, x8, x9] W := by
    intro W ms es2 x5 x6 x7 x8 x9 h1 h2 h3 h4 h5 h6 h7 h8 h9 h10
    walk_at "gx"
    refine ⟨fun r2 W2 e4 hr2 => ?_⟩
    exact k r2 D bk ms es2 W2 hr2 ⟨bs, SqL.of (e4 _ _ h1), Paired.mapP h3 fun _ _ r => (r.same e4).e⟩ (SqL.of (e4 _ _ h2)) h4 h5 h6 h7 h8 (h9.same e4) (h10.then e4)
  have wp : 0 < wid ls es := by
    cases ls with
    | nil => exact e1
    | cons p l => exact (hw p List.mem_cons_self).1
  walk_at "gx"
  refine ⟨a, st, _, rfl, c3, by decide, fun d W d0 d1 cW eW => ?_⟩
  have eHW := (Same.x e23).trans eW
  obtain ⟨hDW, hbkW, hbW⟩ := geW W eW
  have caseB : ∀ W, SameX st G W → Ctx K W a st → chgB K E { nx := stop (t__law_changed_3 K E) { nx := fun _ H' => Q .non H', rt := Q }, rt := Q } [some (.ref a), some (.ref st), some (.ref r), some (.ref D), some (.ref bk), none, none, none, none, none] W := by
    intro W eW cW
    obtain ⟨hDW, hbkW, hbW⟩ := geW W eW
    unfold chgB
    walk_at "gx"
    rw [List.length_map]
    refine ⟨a, st, _, rfl, cW, by omega, fun u W2 u0 u1 c2 e2' => ?_⟩
    obtain ⟨u, rfl⟩ := Int.eq_ofNat_of_zero_le u0
    have u1 : u < es.length := by have : (u : Int) < (es.length : Nat) := u1; omega
    have eW2 := eW.trans e2'
    obtain ⟨hDW2, hbkW2, hbW2⟩ := geW W2 eW2
    have go : ∀ (v : Option Bool) (x9 : Option V), t__law_changed_3 K E { nx := fun _ H' => Q .non H', rt := Q } [some (.ref a), some (.ref st), some (.ref r), some (.ref D), some (.ref bk), none, none, none, none, x9] (upd W2 bk (.lst ((es.map obV).set u (obV v)))) := by
      intro v x9
      have si : SameX bk W2 (upd W2 bk (.lst ((es.map obV).set u (obV v)))) := SameX.upd
      refine fin _ ls (es.set u v) _ _ _ _ _ (si _ _ hDW2 dDb) (by rw [upd_same, List.map_set]) (Paired.mapP hbW2 fun b ps ⟨_, _, h3, h4⟩ => h4.x si hbkW2 h3) (okT_len (by rw [List.length_set]) ok) rfl (by rw [← wid_len (es := es) (by rw [List.length_set])]; exact wp) (fun ps hps => (hw ps hps).2) (by rw [List.length_set]; exact e6') (c2.mut hc nbkH) (SameX.mut ((Same.x e23).trans eW2) nbkH)
    have g : (es.map obV)[u]? = some (obV es[u]) := by rw [List.getElem?_map, List.getElem?_eq_getElem u1]; rfl
    have at2 : L2.atI (es.map obV) (u : Int) = some (obV es[u]) := L2.atI_nat g
    have ix2 : L2.ixN (es.map obV).length (u : Int) = some u := ix50 (by rw [List.length_map]; exact u1)
    generalize es[u] = o at *
    rcases o with _ | _ | _
    · walk_at "gx"
      refine IsT.non ?_
      walk_at "gx"
      refine IsT.non ?_
      walk_at "gx"
      refine Pl.of ix2 ?_
      exact ⟨go (some true) _⟩
    · walk_at "gx"
      refine IsT.bl ?_
      walk_at "gx"
      refine IsT.bl ?_
      walk_at "gx"
      refine Pl.of ix2 ?_
      exact ⟨go none _⟩
    · walk_at "gx"
      refine IsT.bl ?_
      walk_at "gx"
      refine Pl.of ix2 ?_
      exact ⟨go (some false) _⟩
  walk_at "gx"
  refine ifd (fun h => ?_) (fun h => ?_)
  · walk_at "gx"
    refine ifd (fun h2 => ?_) (fun h2 => ?_)
    · have pl0 : 0 < ls.length := by have h2 : (((bs.map V.ref).length : Nat) : Int) > 0 := h2; rw [List.length_map, lb] at h2; omega
      walk_at "gx"
      rw [List.length_map, lb]
      refine ⟨a, st, _, rfl, cW, by omega, fun u W2 u0 u1 c2 e2' => ?_⟩
      obtain ⟨u, rfl⟩ := Int.eq_ofNat_of_zero_le u0
      have u1 : u < ls.length := by have : (u : Int) < (ls.length : Nat) := u1; omega
      have eW2 := eW.trans e2'
      obtain ⟨hDW2, hbkW2, hbW2⟩ := geW W2 eW2
      have gp : ls[u]? = some ls[u] := List.getElem?_eq_getElem u1
      obtain ⟨b, gb, b1, b2, b3, hb⟩ := lcg_at hbW2 gp
      obtain ⟨w1, w6⟩ := hw _ (List.getElem_mem u1)
      obtain ⟨ts, hts, hrow⟩ := id hb
      have lts := hrow.length
      have bst := ctx_ne hc b2
      have atb : L2.atI (bs.map V.ref) (u : Int) = some (.ref b) := L2.atI_nat (by rw [List.getElem?_map, gb]; rfl)
      walk_at "gx"
      rw [List.length_map, lts]
      refine ⟨a, st, _, rfl, c2, by omega, fun n W3 n0' n1 c4 e4 => ?_⟩
      obtain ⟨n, rfl⟩ := Int.eq_ofNat_of_zero_le n0'
      have n1 : n < ls[u].length := by have : (n : Int) < (ls[u].length : Nat) := n1; omega
      have eW3 := eW2.trans e4
      obtain ⟨hDW3, hbkW3, hbW3⟩ := geW W3 eW3
      have gn : ls[u][n]? = some ls[u][n] := List.getElem?_eq_getElem n1
      have tail : ∀ (w : Nat), w = wid (ls.drop (u + 1)) es → 0 < w → (tSeq (tAsg (tOp (oIx K) (dVar 3) (dVar 5)) (gName 8))
    (tAsg (dTup K (tCons (tOp (oIx K) (tOp (oIx K) (dVar 8) (dVar 6)) (tC (.int 0))) (tCons (dCall (sp__law_draw K) (EW E) (tCons (dVar 0) (tCons (dVar 1) (tCons (dVar 7) (tNil))))) (tNil)))) (gSub (dVar 8) (dVar 6) oSet))) { nx := stop (t__law_changed_3 K E) { nx := fun _ H' => Q .non H', rt := Q }, rt := Q } [some (.ref a), some (.ref st), some (.ref r), some (.ref D), some (.ref bk), some (.int (u : Int)), some (.int (n : Int)), some (.int (w : Int)), none, none] W3 := by
        intro w hw2 w0
        obtain ⟨b', gb', _, _, _, hb'⟩ := lcg_at hbW3 gp
        rw [gb] at gb'
        cases gb'
        obtain ⟨ts, hts, hrow⟩ := hb'
        obtain ⟨t, ht, htr⟩ := lcg_at hrow gn
        have htr : SqT K W3 t [.int (ls[u][n].1 : Int), .int (ls[u][n].2 : Int)] := htr
        walk_at "gx"
        refine .of (L2.atI_nat (by rw [List.getElem?_map, ht]; rfl)) ?_
        walk_at "gx"
        refine ⟨a, st, _, rfl, c4, by omega, fun z W4 z0 z1 c5 e5 => ?_⟩
        obtain ⟨z, rfl⟩ := Int.eq_ofNat_of_zero_le z0
        have z1 : z < w := by have : (z : Int) < (w : Nat) := z1; omega
        walk_at "gx"
        refine ⟨fun t2 W5 e6 ht2 => ?_⟩
        have e56 := e5.then e6
        have eW5 := eW3.trans e56
        obtain ⟨hD5, hbk5, hb5⟩ := geW W5 eW5
        have hts5 := e56 _ _ hts bst
        have lts := hrow.length
        have si : SameX b W5 (upd W5 b (.lst ((ts.map V.ref).set n (.ref t2)))) := SameX.upd
        walk_at "gx"
        refine Pl.of (ix50 (by rw [List.length_map]; omega)) ?_
        obtain ⟨l4, hs4⟩ := ctx_st c4
        have ex : Paired (LvR K (upd W5 b (.lst ((ts.map V.ref).set n (.ref t2))))) bs (ls.set u (ls[u].set n (ls[u][n].1, z))) := by
          refine paired_setN hb5 ndb gb (fun x y hxb _ ⟨_, _, _, h4⟩ => h4.x si hts5 hxb) ⟨ts.set n t2, by rw [upd_same, List.map_set], ?_⟩
          have hrow5 : Paired (RowT K W5) ts ls[u] := Paired.mapP hrow fun _ _ r => SameX.tup e56 r hs4
          exact Paired.mapP (paired_set50 n hrow5 (show RowT K W5 t2 (ls[u][n].1, z) from ht2)) fun _ _ r => SameX.tup si r hts5
        refine ⟨fin _ (ls.set u (ls[u].set n (ls[u][n].1, z))) es _ _ _ _ _ (si _ _ hD5 b1.symm) (si _ _ hbk5 b3.symm) ex (okT_set ok gp (List.length_set ..) ?_) (List.length_set ..) (by rw [wid_set gp (List.length_set ..)]; exact wp) ?_ e6' ((c5.same e6).mut hc b2) (SameX.mut ((Same.x e23).trans eW5) b2)⟩
        · intro p hp
          rcases mem_set50 hp with hp | rfl
          · have ok2 := okT.drop u ok
            rw [drop_cons gp] at ok2
            exact ok2.1 p hp
          · have ok2 := okT.drop u ok
            rw [drop_cons gp] at ok2
            exact ⟨(ok2.1 _ (List.getElem_mem n1)).1, by rw [← hw2]; exact z1⟩
        · intro ps hp
          rcases mem_set50 hp with hp | rfl
          · exact (hw ps hp).2
          · rw [List.length_set]; exact w6
      have wd : ∀ j, j ≤ ls.length → 0 < wid (ls.drop j) es := fun j hj => by
        cases hdr : ls.drop j with
        | nil => exact e1
        | cons p l => exact (hw p (List.mem_of_mem_drop (i := j) (by rw [hdr]; exact List.mem_cons_self))).1
      have wdu := wd (u + 1) u1
      walk_at "gx"
      refine ifd (fun h3 => ?_) (fun h3 => ?_)
      · have h3 : u + 1 < ls.length := by have h3 : ((u : Int) + 1) < (((bs.map V.ref).length : Nat) : Int) := h3; rw [List.length_map, lb] at h3; omega
        have gq : ls[u + 1]? = some ls[u + 1] := List.getElem?_eq_getElem h3
        obtain ⟨d, gd, _, _, _, ts2, hts2, hrow2⟩ := lcg_at hbW3 gq
        have e0 : wid (ls.drop (u + 1)) es = ls[u + 1].length := by rw [drop_cons gq]; rfl
        walk_at "gx"
        refine .of (L2.atI_nat (j := u + 1) (by rw [List.getElem?_map, gd]; rfl)) ?_
        refine Rd.l hts2 ?_
        rw [show (ts2.map V.ref).length = wid (ls.drop (u + 1)) es from by rw [List.length_map, hrow2.length, e0]]
        exact tail _ rfl wdu
      · have h3 : u + 1 = ls.length := by have h3 : ¬ ((u : Int) + 1) < (((bs.map V.ref).length : Nat) : Int) := h3; rw [List.length_map, lb] at h3; omega
        have e0 : wid (ls.drop (u + 1)) es = es.length := by rw [h3, List.drop_length]; rfl
        rw [List.length_map, ← e0]
        exact tail _ rfl wdu
    · exact caseB W eW cW
  · exact caseB W eW cW
end
end S
-- deps: Tbl
/-! ## least tables -/
namespace S
open PySem PySem.Spec PyProof.Rows L2
def flP (ps : List (Nat × Nat)) : List Nat := ps.flatMap fun p => [p.1, p.2]
/-- least form -/
def LeastT : Lvs → Ends3 → Prop
  | [], es => es.Nodup
  | ps :: ls, es => ps.Nodup ∧ flP ps = num (flP ps) ∧ (dst (flP ps)).length = wid ls es ∧ LeastT ls es
theorem num_num {κ : Type} [DecidableEq κ] (l : List κ) : num (num l) = num l := by
  have h : num l = l.map (ixF (dst l)) := rfl
  rw [h]
  exact num_map fun x hx y hy e => ixF_inj (mem_dst.mpr hx) (mem_dst.mpr hy) e
theorem dst_num {κ : Type} [DecidableEq κ] (l : List κ) : (dst (num l)).length = (dst l).length := by
  have h : num l = l.map (ixF (dst l)) := rfl
  rw [h, dst_map fun x hx y hy e => ixF_inj (mem_dst.mpr hx) (mem_dst.mpr hy) e, List.length_map]
theorem flP_row (F : List BT) : flP (rowF F) = num (chl F) := by
  unfold flP rowF num chl
  rw [List.flatMap_map, List.map_flatMap]
  rfl
theorem nodup_mapI {α β : Type} {f : α → β} : ∀ {l : List α}, (∀ x ∈ l, ∀ y ∈ l, f x = f y → x = y) → l.Nodup → (l.map f).Nodup
  | [], _, _ => .nil
  | a :: l, h, nd => by
    rw [List.nodup_cons] at nd
    rw [List.map_cons, List.nodup_cons]
    refine ⟨fun hm => ?_, nodup_mapI (fun x hx y hy => h x (List.mem_cons_of_mem _ hx) y (List.mem_cons_of_mem _ hy)) nd.2⟩
    obtain ⟨y, hy, e⟩ := List.mem_map.mp hm
    have := h y (List.mem_cons_of_mem _ hy) a List.mem_cons_self e
    exact nd.1 (this ▸ hy)
theorem full_dst {m : Nat} {F : List BT} (h : ∀ t ∈ F, t.full (m + 1)) : ∀ t ∈ dst (chl F), t.full m := fun t ht => by
  obtain ⟨u, hu, e⟩ := List.mem_flatMap.mp (mem_dst.mp ht)
  have fu := h u hu
  cases u with
  | lf o => exact fu.elim
  | nd a b =>
    simp only [List.mem_cons, List.not_mem_nil, or_false] at e
    rcases e with e | e
    · rw [e]; exact fu.1
    · rw [e]; exact fu.2
theorem least_can : ∀ (m : Nat) (F : List BT), F.Nodup → (∀ t ∈ F, t.full m) → LeastT (canL m F) (canE m F)
  | 0, F, nd, h => by
    show (F.map BT.val).Nodup
    refine nodup_mapI (fun x hx y hy e => ?_) nd
    have fx := h x hx
    have fy := h y hy
    cases x with
    | nd a b => exact fx.elim
    | lf o =>
      cases y with
      | nd a b => exact fy.elim
      | lf p => have e : o = p := e; rw [e]
  | m + 1, F, nd, h => by
    have hc := full_dst h
    obtain ⟨t1, t2⟩ := trees_can m (dst (chl F)) hc
    refine ⟨nodup_mapI (fun x hx y hy e => ?_) nd, by rw [flP_row, num_num], ?_, least_can m (dst (chl F)) dst_nd hc⟩
    · have fx := h x hx
      have fy := h y hy
      obtain ⟨mx1, mx2⟩ := mem_chl hx
      obtain ⟨my1, my2⟩ := mem_chl hy
      have e1 := ixF_inj (mem_dst.mpr mx1) (mem_dst.mpr my1) (congrArg Prod.fst e)
      have e2 := ixF_inj (mem_dst.mpr mx2) (mem_dst.mpr my2) (congrArg Prod.snd e)
      cases x with
      | lf o => exact fx.elim
      | nd a b =>
        cases y with
        | lf o => exact fy.elim
        | nd c d => rw [show a = c from e1, show b = d from e2]
    · rw [flP_row, dst_num]
      show _ = wid (canL m (dst (chl F))) (canE m (dst (chl F)))
      rw [← trees_len, t1]
/-- what holds of the least table of a table -/
theorem can_facts {ls : Lvs} {es : Ends3} (ok : okT ls es) (wp : 0 < wid ls es) {M : Nat} (h1 : ∀ ps ∈ ls, ps.length ≤ M) (h2 : es.length ≤ M) :
    trees (canL ls.length [gT (trees ls es) 0]) (canE ls.length [gT (trees ls es) 0]) = [gT (trees ls es) 0] ∧ okT (canL ls.length [gT (trees ls es) 0]) (canE ls.length [gT (trees ls es) 0]) ∧
    LeastT (canL ls.length [gT (trees ls es) 0]) (canE ls.length [gT (trees ls es) 0]) ∧ wid (canL ls.length [gT (trees ls es) 0]) (canE ls.length [gT (trees ls es) 0]) = 1 ∧
    (∀ ps ∈ canL ls.length [gT (trees ls es) 0], ps.length ≤ M) ∧ (canE ls.length [gT (trees ls es) 0]).length ≤ M := by
  rw [← trees_len] at wp
  have mem := gT_mem wp
  generalize gT (trees ls es) 0 = t at *
  have full : ∀ u ∈ [t], u.full ls.length := fun u hu => by rw [List.mem_singleton.mp hu]; exact trees_full ok t mem
  have sub : ∀ u ∈ [t], u ∈ trees ls es := fun u hu => by rw [List.mem_singleton.mp hu]; exact mem
  have nd : [t].Nodup := by simp
  obtain ⟨t1, t2⟩ := trees_can ls.length [t] full
  refine ⟨t1, t2, least_can _ _ nd full, by rw [← trees_len, t1]; rfl, fun ps hps => ?_, ?_⟩
  · obtain ⟨i, hi, rfl⟩ := List.mem_iff_getElem.mp hps
    have g := List.getElem?_eq_getElem hi
    rw [canL_len] at hi
    rw [canL_get _ _ _ hi] at g
    rw [← Option.some.inj g]
    unfold rowF
    rw [List.length_map]
    exact lvF_len ok h1 h2 sub nd i (Nat.le_of_lt hi)
  · unfold canE
    rw [List.length_map]
    exact lvF_len ok h1 h2 sub nd _ (Nat.le_refl _)
end S
namespace S
open PySem PySem.Spec PyProof.Rows L2
def t_law_b1_1 (K : Frag) (E : XK) : TS :=
    dIfS (dNot (dTest K (dCall (sp__law_same K) (EW E) (tCons (dCall (sp__law_run K) (EW E) (tCons (tOp (oIx K) (dVar 2) (tC (.int 0))) (tCons (tOp (oIx K) (dVar 2) (tC (.int 1))) (tCons (dVar 10) (tNil))))) (tCons (dCall (sp__law_run K) (EW E) (tCons (tOp (oIx K) (dVar 4) (tC (.int 0))) (tCons (tOp (oIx K) (dVar 4) (tC (.int 1))) (tCons (dVar 10) (tNil))))) (tNil)))))) (tAsg (tC (.bl false)) (gName 8)) (tNext)
def t_law_b1 (K : Frag) (E : XK) : TS :=
    tSeq (tAsg (dLc (iRng (tCons (dVar 5) (tNil))) (gName 12) (tYes) (tOp oAnd (tOp oShr (dVar 9) (tOp oSub (tOp oSub (dVar 5) (tC (.int 1))) (dVar 12))) (tC (.int 1))) [12]) (gName 10))
    (stop (t_law_b1_1 K E))
def t_law_11 (K : Frag) (E : XK) : TS :=
    tRet (tOp (oEq K) (dVar 8) (dAndV (tOp (oEq K) (tOp (oIx K) (dVar 11) (tC (.int 0))) (tOp (oIx K) (dVar 6) (tC (.int 0)))) (dCall (sp__law_answers K) (EW E) (tCons (tOp (oIx K) (dVar 11) (tC (.int 1))) (tCons (tOp (oIx K) (dVar 6) (tC (.int 1))) (tNil))))))
def t_law_10 (K : Frag) (E : XK) : TS :=
    tSeq (tAsg (dCall (sp_reduced K) (EW E) (tCons (tOp (oIx K) (dVar 4) (tC (.int 0))) (tCons (tOp (oIx K) (dVar 4) (tC (.int 1))) (tNil)))) (gName 11))
    (stop (t_law_11 K E))
def t_law_9 (K : Frag) (E : XK) : TS :=
    tSeq (dFor (iRng (tCons (tOp oShl (tC (.int 1)) (dVar 5)) (tNil))) (gName 9) (t_law_b1 K E))
    (stop (t_law_10 K E))
def t_law_8 (K : Frag) (E : XK) : TS :=
    tSeq (tAsg (tC (.bl true)) (gName 8))
    (stop (t_law_9 K E))
def t_law_7 (K : Frag) (E : XK) : TS :=
    tSeq (dIfS (dOr (dCmpT (oNe K) (tOp (oIx K) (dVar 7) (tC (.int 0))) (tOp (oIx K) (dVar 6) (tC (.int 0)))) (dNot (dTest K (dCall (sp__law_answers K) (EW E) (tCons (tOp (oIx K) (dVar 7) (tC (.int 1))) (tCons (tOp (oIx K) (dVar 6) (tC (.int 1))) (tNil))))))) (tRet (tC (.bl false))) (tNext))
    (stop (t_law_8 K E))
def t_law_6 (K : Frag) (E : XK) : TS :=
    tSeq (tAsg (dCall (sp_reduced K) (EW E) (tCons (tOp (oIx K) (dVar 3) (tC (.int 0))) (tCons (tOp (oIx K) (dVar 3) (tC (.int 1))) (tNil)))) (gName 7))
    (stop (t_law_7 K E))
def t_law_5 (K : Frag) (E : XK) : TS :=
    tSeq (tAsg (dCall (sp_reduced K) (EW E) (tCons (tOp (oIx K) (dVar 2) (tC (.int 0))) (tCons (tOp (oIx K) (dVar 2) (tC (.int 1))) (tNil)))) (gName 6))
    (stop (t_law_6 K E))
def t_law_4 (K : Frag) (E : XK) : TS :=
    tSeq (tAsg (tCB (cLen K) (tCons (tOp (oIx K) (dVar 2) (tC (.int 0))) (tNil))) (gName 5))
    (stop (t_law_5 K E))
def t_law_3 (K : Frag) (E : XK) : TS :=
    tSeq (tAsg (dCall (sp__law_changed K) (EW E) (tCons (dVar 0) (tCons (dVar 1) (tCons (dVar 2) (tNil))))) (gName 4))
    (stop (t_law_4 K E))
def t_law_2 (K : Frag) (E : XK) : TS :=
    tSeq (tAsg (dCall (sp__law_twin K) (EW E) (tCons (dVar 0) (tCons (dVar 1) (tCons (dVar 2) (tNil))))) (gName 3))
    (stop (t_law_3 K E))
def t_law_1 (K : Frag) (E : XK) : TS :=
    tSeq (tAsg (dCall (sp__law_table K) (EW E) (tCons (dVar 0) (tCons (dVar 1) (tCons (tC (.int 5)) (tNil))))) (gName 2))
    (stop (t_law_2 K E))
def t_law (K : Frag) (E : XK) : TS :=
    tSeq (tAsg (dLst (tCons (tC (.int 0)) (tCons (tC (.int 0)) (tCons (tC (.int 0)) (tCons (tC (.int 0)) (tNil)))))) (gName 1))
    (stop (t_law_1 K E))
end S
-- fn: law
-- law: k50
-- deps: reduced _law_answers _law_run _law_table _law_same_d _law_twin_k50 _law_changed_k50 Bts Least Eqt
namespace S
open PySem PySem.Spec PyProof.Rows L2
theorem can_inj {m : Nat} {t u : BT} (ft : t.full m) (fu : u.full m) (h1 : canL m [u] = canL m [t]) (h2 : canE m [u] = canE m [t]) : u = t := by
  have a := (trees_can m [t] fun x hx => by rw [List.mem_singleton.mp hx]; exact ft).1
  have b := (trees_can m [u] fun x hx => by rw [List.mem_singleton.mp hx]; exact fu).1
  rw [h1, h2, a] at b
  exact (List.cons.inj b).1.symm
theorem flag_iff {m : Nat} {t u : BT} (ft : t.full m) (fu : u.full m) : (∀ i, i < 2 ^ m → t.run (bitsN m i) = u.run (bitsN m i)) ↔ t = u := by
  refine ⟨fun h => run_ext m t u ft fu fun bs hb => ?_, fun h i _ => by rw [h]⟩
  obtain ⟨n, hn, e⟩ := bitsN_all bs
  rw [hb] at hn e
  rw [← e]; exact h n hn
section
variable {K : Frag} {E : XK} {Q : VK} {D : L2.Ends}
theorem pure_law (vs : List V) (H : Hp) (Q : VK) (E : XK) (h : sp_law K vs H Q E) : t_law K E { nx := fun _ H' => Q .non H', rt := Q } (start ["_law_script", "_law_state", "_law_table_here", "_law_twin_here", "_law_other", "_law_many", "_law_found", "_law_second", "_law_same_here", "_law_number", "_law_bits", "_law_third", "_law_k"] vs) H := by
  obtain ⟨a, ns, rfl, hs, q⟩ := h
  walk_at "gx"
  refine ⟨fun st nst => ?_⟩
  have c1 : Ctx K (upd H st (.lst [.int 0, .int 0, .int 0, .int 0])) a st := ctx0 hs nst _ ⟨0, 0, 0, 0, rfl, by decide, by decide, .inl rfl⟩
  generalize upd H st (.lst [.int 0, .int 0, .int 0, .int 0]) = H1 at *
  have n0 : H1 st ≠ none := by obtain ⟨l, h⟩ := ctx_st c1; rw [h]; exact fun z => nomatch z
  walk_at "gx"
  refine ⟨a, st, _, rfl, c1, by decide, by decide, fun r pl pe ls es H2 hr hT ok lm hw e1 e6 c2 _ => ?_⟩
  have lm : ls.length ≤ 5 := by omega
  walk_at "gx"
  refine ⟨a, st, r, pl, pe, ls, es, H1, rfl, c2, hr, hT, n0, ok, by omega, hw, e1, e6, fun r2 ql qe ms es2 H3 hr2 hT2 ok2 lM et wp2 bd2 be2 c3 e3 => ?_⟩
  obtain ⟨l2, hs2⟩ := ctx_st c2
  obtain ⟨l3, hs3⟩ := ctx_st c3
  have n02 : H2 st ≠ none := by rw [hs2]; exact fun z => nomatch z
  have hr3 := SameX.tup e3 hr hs2
  have hT3 := hT.x e3 hs2 n0
  walk_at "gx"
  refine ⟨a, st, r, pl, pe, ls, es, H1, rfl, c3, hr3, hT3, n0, ok, by omega, hw, e1, e6, fun r3 ul ue us es3 H4 hr3' hT4 hE4 ok3 lU wp3 bd3 be3 c4 e4 => ?_⟩
  have hr4 := SameX.tup e4 hr3 hs3
  have hr24 := SameX.tup e4 hr2 hs3
  have hT34 := hT3.x e4 hs3 n0
  have hT24 := hT2.x e4 hs3 n02
  obtain ⟨xs, hx, hL, _⟩ := hT34.lv
  have lx := hL.length
  have wp : 0 < wid ls es := by
    cases ls with
    | nil => exact e1
    | cons p l => exact (hw p List.mem_cons_self).1
  have sm : smT ls es := ⟨by omega, fun ps hps => by have := (hw ps hps).2; omega, by omega⟩
  have sm2 : smT ms es2 := ⟨by omega, fun ps hps => by have := bd2 ps hps; omega, by omega⟩
  have sm3 : smT us es3 := ⟨by omega, fun ps hps => by have := bd3 ps hps; omega, by omega⟩
  have at0 : ∀ {x y : Addr}, L2.atI [V.ref x, .ref y] 0 = some (.ref x) := fun {x y} => L2.atI_nat (j := 0) rfl
  have at1 : ∀ {x y : Addr}, L2.atI [V.ref x, .ref y] 1 = some (.ref y) := fun {x y} => L2.atI_nat (j := 1) rfl
  have hE := hT34.en
  have hE2 := hT24.en
  walk_at "gx"
  rw [List.length_map, lx]
  refine ⟨pl, pe, ls, es, rfl, hT34.e.a, .inl (SqL.of hE), ok, sm, wp, fun f fa fb H5 e5 nf hf hfa hfb => ?_⟩
  have hr25 := Same.tup e5 hr24
  walk_at "gx"
  refine ⟨ql, qe, ms, es2, rfl, (hT24.e.same e5).a, .inl (SqL.of (e5 _ _ hE2)), ok2, sm2, wp2, fun g ga gb H6 e6' ng hg hga hgb => ?_⟩
  rw [et, lM] at hga hgb
  have hf6 := Same.tup e6' (SqT.of (K := K) hf)
  have hfa6 := hfa.same e6'
  have hfb6 := Same.tup e6' hfb
  have hgT := SqT.of (K := K) hg
  have bE : (canE ls.length [gT (trees ls es) 0]).length ≤ 6 := (can_facts ok wp (fun ps hps => (hw ps hps).2) e6).2.2.2.2.2
  walk_at "gx"
  refine eqd_tb (TbE.t hga) (TbE.t hfa6) ?_
  rw [decide_eq_true rfl]
  walk_at "gx"
  refine ⟨gb, fb, _, _, rfl, .inr hgb, .inr hfb6, by omega, ?_⟩
  rw [decide_eq_true rfl]
  have p6 : (2 : Nat) ^ ls.length ≤ 2 ^ 5 := Nat.pow_le_pow_right (by decide) lm
  have ep : (1 : Int) * 2 ^ ((ls.length : Nat) : Int).toNat = ((2 ^ ls.length : Nat) : Int) := by
    rw [Int.one_mul, Int.toNat_natCast, Int.natCast_pow]; rfl
  have e56 := e5.trans e6'
  have hT6 := hT34.e.same e56
  have hU6 := hT4.same e56
  have ft : (gT (trees ls es) 0).full ls.length := trees_full ok _ (gT_mem (by rw [trees_len]; exact wp))
  have fu : (gT (trees us es3) 0).full ls.length := by rw [← lU]; exact trees_full ok3 _ (gT_mem (by rw [trees_len]; exact wp3))
  have hr6 := Same.tup e56 hr4
  have hr36 := Same.tup e56 hr3'
  have hE6 := e56 _ _ hE
  have hU6e := Same.seq e56 hE4
  generalize ht : gT (trees ls es) 0 = t at *
  generalize hu : gT (trees us es3) 0 = u at *
  obtain ⟨N, hN⟩ : ∃ N, N = 2 ^ ls.length := ⟨_, rfl⟩
  rw [← hN] at ep p6
  walk_at "gx"
  refine for_rng (fun i σ W => Same H6 W ∧ ∃ (b : Bool) (x9 x10 : Option V), σ = [some (.ref a), some (.ref st), some (.ref r), some (.ref r2), some (.ref r3), some (.int (ls.length : Nat)), some (.ref f), some (.ref g), some (.bl b), x9, x10, none, none] ∧ (b = true ↔ ∀ j, j < i → t.run (bitsN ls.length j) = u.run (bitsN ls.length j))) ⟨Same.refl _, true, none, none, rfl, ⟨fun _ j z => absurd z (Nat.not_lt_zero _), fun _ => rfl⟩⟩ ?_ ?_
  · rintro i σ W hi ⟨eW, b, x9, x10, rfl, hb⟩
    walk_at "gx"
    refine lc_bits (m := ls.length) (n := i) (by rw [sizeLine_eq]; omega) ?_ ?_
    · intro j H7 A hj e7 hA
      refine ⟨rfl, ?_⟩
      rw [← bit_tst i ls.length j hj] at hA
      walk_at "gx"
      exact hA
    intro bt H7 nbt hbt e7
    have e67 := eW.trans e7
    have hr7 := Same.tup e67 hr6
    have hr37 := Same.tup e67 hr36
    have hE7 := e67 _ _ hE6
    have hU7 := Same.seq e67 hU6e
    walk_at "gx"
    refine ⟨pl, pe, bt, ls, es, bitsN ls.length i, rfl, (hT6.same e67).a, .inl (SqL.of hE7), .inl (SqL.of hbt), ok, wp, bitsN_len _ _, by omega, ?_⟩
    walk_at "gx"
    refine ⟨ul, ue, bt, us, es3, bitsN ls.length i, rfl, (hU6.same e67).a, .inl hU7, .inl (SqL.of hbt), ok3, wp3, by rw [bitsN_len, lU], by omega, ?_⟩
    rw [ht, hu]
    refine ⟨_, _, rfl, ?_⟩
    refine ifn (fun h => ?_) (fun h => ?_)
    · refine ⟨e67, false, _, _, rfl, ⟨fun z => (nomatch z), fun z => absurd (z i (Nat.lt_succ_self i)) h⟩⟩
    · refine ⟨e67, b, _, _, rfl, hb.trans ⟨fun z j hj => ?_, fun z j hj => z j (Nat.lt_succ_of_lt hj)⟩⟩
      rcases Nat.lt_succ_iff_lt_or_eq.mp hj with hj | rfl
      · exact z j hj
      · exact h
  · rintro σ W ⟨eW, b, x9, x10, rfl, hb⟩
    have hb : b = true ↔ t = u := by
      have e : ((1 : Int) * 2 ^ ((ls.length : Nat) : Int).toNat).toNat = 2 ^ ls.length := by rw [ep, hN]; rfl
      have hb : b = true ↔ ∀ j, j < ((1 : Int) * 2 ^ ((ls.length : Nat) : Int).toNat).toNat → t.run (bitsN ls.length j) = u.run (bitsN ls.length j) := hb
      rw [e] at hb
      exact hb.trans (flag_iff ft fu)
    have hr3W := Same.tup eW hr36
    have hfW := Same.tup eW hf6
    have hfbW := Same.tup eW hfb6
    walk_at "gx"
    refine ⟨ul, ue, us, es3, rfl, (hU6.same eW).a, .inl (Same.seq eW hU6e), ok3, sm3, wp3, fun v va vb W2 e7 nv hv hva hvb => ?_⟩
    rw [hu, lU] at hva hvb
    have hvT := SqT.of (K := K) hv
    have hf7 := Same.tup e7 hfW
    have bE3 : (canE us.length [gT (trees us es3) 0]).length ≤ 6 := (can_facts ok3 wp3 bd3 be3).2.2.2.2.2
    rw [hu, lU] at bE3
    walk_at "gx"
    refine eqd_tb (TbE.t hva) (TbE.t (hfa6.same (eW.trans e7))) ?_
    by_cases h1 : canL ls.length [u] = canL ls.length [t]
    · rw [decide_eq_true h1]
      walk_at "gx"
      refine ⟨vb, fb, _, _, rfl, .inr hvb, .inr (Same.tup e7 hfbW), by omega, ?_⟩
      have e : decide (b = decide (canE ls.length [u] = canE ls.length [t])) = true := by
        refine decide_eq_true ?_
        by_cases h2 : canE ls.length [u] = canE ls.length [t]
        · rw [decide_eq_true h2]; exact hb.mpr (can_inj ft fu h1 h2).symm
        · rw [decide_eq_false h2]
          cases hbb : b with
          | false => rfl
          | true => exact absurd (by rw [hb.mp hbb]) h2
      refine Eq.mp (congrArg (fun c => Q (V.bl c) W2) e.symm) (q _)
    · rw [decide_eq_false h1]
      have e : b = false := by
        cases hbb : b with
        | false => rfl
        | true => exact absurd (by rw [hb.mp hbb]) h1
      subst e
      exact q _
end
end S

namespace S
open PySem PySem.Spec PyProof.Rows L2
theorem sc__law_draw : FnScope ["_law_script", "_law_state", "_law_base", "_law_here", "_law_number", "_law_digit", "_law_mixed"] ["_law_script", "_law_state", "_law_base"] (defScope s__law_draw) := ⟨rfl, rfl, rfl, by decide +kernel, rfl, by decide +kernel, by decide +kernel⟩
theorem sc__law_table : FnScope ["_law_script", "_law_state", "_law_most", "_law_many", "_law_counts", "_law_levels", "_law_k", "_law_pairs", "_law_node", "_law_low"] ["_law_script", "_law_state", "_law_most"] (defScope s__law_table) := ⟨rfl, rfl, rfl, by decide +kernel, rfl, by decide +kernel, by decide +kernel⟩
theorem sc__law_ids : FnScope ["_law_script", "_law_state", "_law_count", "_law_shift", "_law_ids_here", "_law_k"] ["_law_script", "_law_state", "_law_count"] (defScope s__law_ids) := ⟨rfl, rfl, rfl, by decide +kernel, rfl, by decide +kernel, by decide +kernel⟩
theorem sc__law_place : FnScope ["_law_script", "_law_state", "_law_ids_here", "_law_node", "_law_places", "_law_k"] ["_law_script", "_law_state", "_law_ids_here", "_law_node"] (defScope s__law_place) := ⟨rfl, rfl, rfl, by decide +kernel, rfl, by decide +kernel, by decide +kernel⟩
theorem sc__law_twin : FnScope ["_law_script", "_law_state", "_law_table_here", "_law_counts", "_law_ids_here", "_law_count", "_law_levels", "_law_k", "_law_pairs", "_law_node", "_law_low"] ["_law_script", "_law_state", "_law_table_here"] (defScope s__law_twin) := ⟨rfl, rfl, rfl, by decide +kernel, rfl, by decide +kernel, by decide +kernel⟩
theorem sc__law_changed : FnScope ["_law_script", "_law_state", "_law_table_here", "_law_levels", "_law_ends", "_law_level", "_law_node", "_law_below", "_law_pairs", "_law_at"] ["_law_script", "_law_state", "_law_table_here"] (defScope s__law_changed) := ⟨rfl, rfl, rfl, by decide +kernel, rfl, by decide +kernel, by decide +kernel⟩
theorem sc_numbered_once : FnScope ["keys", "seen", "numbers", "key"] ["keys"] (defScope s_numbered_once) := ⟨rfl, rfl, rfl, by decide +kernel, rfl, by decide +kernel, by decide +kernel⟩
theorem sc_class_levels : FnScope ["levels", "ends", "classes", "pairs", "below", "low", "high"] ["levels", "ends"] (defScope s_class_levels) := ⟨rfl, rfl, rfl, by decide +kernel, rfl, by decide +kernel, by decide +kernel⟩
theorem sc_first_nodes : FnScope ["classes", "first", "node", "number"] ["classes"] (defScope s_first_nodes) := ⟨rfl, rfl, rfl, by decide +kernel, rfl, by decide +kernel, by decide +kernel⟩
theorem sc_reduced : FnScope ["levels", "ends", "classes", "current", "result", "level", "pairs", "first", "below", "visited", "row", "number", "low", "high", "left", "right", "last"] ["levels", "ends"] (defScope s_reduced) := ⟨rfl, rfl, rfl, by decide +kernel, rfl, by decide +kernel, by decide +kernel⟩
theorem sc__law_same : FnScope ["_law_answer", "_law_due"] ["_law_answer", "_law_due"] (defScope s__law_same) := ⟨rfl, rfl, rfl, by decide +kernel, rfl, by decide +kernel, by decide +kernel⟩
theorem sc__law_answers : FnScope ["_law_found", "_law_due", "_law_k"] ["_law_found", "_law_due"] (defScope s__law_answers) := ⟨rfl, rfl, rfl, by decide +kernel, rfl, by decide +kernel, by decide +kernel⟩
theorem sc__law_run : FnScope ["_law_levels", "_law_ends", "_law_bits", "_law_node", "_law_k"] ["_law_levels", "_law_ends", "_law_bits"] (defScope s__law_run) := ⟨rfl, rfl, rfl, by decide +kernel, rfl, by decide +kernel, by decide +kernel⟩
theorem sc_law : FnScope ["_law_script", "_law_state", "_law_table_here", "_law_twin_here", "_law_other", "_law_many", "_law_found", "_law_second", "_law_same_here", "_law_number", "_law_bits", "_law_third", "_law_k"] ["_law_script"] (defScope s_law) := ⟨rfl, rfl, rfl, by decide +kernel, rfl, by decide +kernel, by decide +kernel⟩
structure T0 (P : Program) (K : Frag) (mg : Str → Option Value) : Prop where
  n_abs : mg "abs" = none
  n_enumerate : mg "enumerate" = none
  n_int : mg "int" = none
  n_len : mg "len" = none
  n_list : mg "list" = none
  n_range : mg "range" = none
  n_reversed : mg "reversed" = none
  n_tuple : mg "tuple" = none
  g__law_answers : mg "_law_answers" = some (.ref (He.ga K "_law_answers"))
  g__law_changed : mg "_law_changed" = some (.ref (He.ga K "_law_changed"))
  g__law_draw : mg "_law_draw" = some (.ref (He.ga K "_law_draw"))
  g__law_ids : mg "_law_ids" = some (.ref (He.ga K "_law_ids"))
  g__law_place : mg "_law_place" = some (.ref (He.ga K "_law_place"))
  g__law_run : mg "_law_run" = some (.ref (He.ga K "_law_run"))
  g__law_same : mg "_law_same" = some (.ref (He.ga K "_law_same"))
  g__law_table : mg "_law_table" = some (.ref (He.ga K "_law_table"))
  g__law_twin : mg "_law_twin" = some (.ref (He.ga K "_law_twin"))
  g_class_levels : mg "class_levels" = some (.ref (He.ga K "class_levels"))
  g_first_nodes : mg "first_nodes" = some (.ref (He.ga K "first_nodes"))
  g_law : mg "law" = some (.ref (He.ga K "law"))
  g_numbered_once : mg "numbered_once" = some (.ref (He.ga K "numbered_once"))
  g_reduced : mg "reduced" = some (.ref (He.ga K "reduced"))
  F__law_draw : ∃ fd, FunD K "_law_draw" "_law_draw" (defArgs s__law_draw) (defBody s__law_draw) (defScope s__law_draw) [] [] (He.fAd K ("_law_draw", none)) fd
  k__law_draw : PySem.W.keepIn K (.ref (He.fAd K ("_law_draw", none))) = true
  F__law_table : ∃ fd, FunD K "_law_table" "_law_table" (defArgs s__law_table) (defBody s__law_table) (defScope s__law_table) [] [] (He.fAd K ("_law_table", none)) fd
  k__law_table : PySem.W.keepIn K (.ref (He.fAd K ("_law_table", none))) = true
  F__law_ids : ∃ fd, FunD K "_law_ids" "_law_ids" (defArgs s__law_ids) (defBody s__law_ids) (defScope s__law_ids) [] [] (He.fAd K ("_law_ids", none)) fd
  k__law_ids : PySem.W.keepIn K (.ref (He.fAd K ("_law_ids", none))) = true
  F__law_place : ∃ fd, FunD K "_law_place" "_law_place" (defArgs s__law_place) (defBody s__law_place) (defScope s__law_place) [] [] (He.fAd K ("_law_place", none)) fd
  k__law_place : PySem.W.keepIn K (.ref (He.fAd K ("_law_place", none))) = true
  F__law_twin : ∃ fd, FunD K "_law_twin" "_law_twin" (defArgs s__law_twin) (defBody s__law_twin) (defScope s__law_twin) [] [] (He.fAd K ("_law_twin", none)) fd
  k__law_twin : PySem.W.keepIn K (.ref (He.fAd K ("_law_twin", none))) = true
  F__law_changed : ∃ fd, FunD K "_law_changed" "_law_changed" (defArgs s__law_changed) (defBody s__law_changed) (defScope s__law_changed) [] [] (He.fAd K ("_law_changed", none)) fd
  k__law_changed : PySem.W.keepIn K (.ref (He.fAd K ("_law_changed", none))) = true
  F_numbered_once : ∃ fd, FunD K "numbered_once" "numbered_once" (defArgs s_numbered_once) (defBody s_numbered_once) (defScope s_numbered_once) [] [] (He.fAd K ("numbered_once", none)) fd
  k_numbered_once : PySem.W.keepIn K (.ref (He.fAd K ("numbered_once", none))) = true
  F_class_levels : ∃ fd, FunD K "class_levels" "class_levels" (defArgs s_class_levels) (defBody s_class_levels) (defScope s_class_levels) [] [] (He.fAd K ("class_levels", none)) fd
  k_class_levels : PySem.W.keepIn K (.ref (He.fAd K ("class_levels", none))) = true
  F_first_nodes : ∃ fd, FunD K "first_nodes" "first_nodes" (defArgs s_first_nodes) (defBody s_first_nodes) (defScope s_first_nodes) [] [] (He.fAd K ("first_nodes", none)) fd
  k_first_nodes : PySem.W.keepIn K (.ref (He.fAd K ("first_nodes", none))) = true
  F_reduced : ∃ fd, FunD K "reduced" "reduced" (defArgs s_reduced) (defBody s_reduced) (defScope s_reduced) [] [] (He.fAd K ("reduced", none)) fd
  k_reduced : PySem.W.keepIn K (.ref (He.fAd K ("reduced", none))) = true
  F__law_same : ∃ fd, FunD K "_law_same" "_law_same" (defArgs s__law_same) (defBody s__law_same) (defScope s__law_same) [] [] (He.fAd K ("_law_same", none)) fd
  k__law_same : PySem.W.keepIn K (.ref (He.fAd K ("_law_same", none))) = true
  F__law_answers : ∃ fd, FunD K "_law_answers" "_law_answers" (defArgs s__law_answers) (defBody s__law_answers) (defScope s__law_answers) [] [] (He.fAd K ("_law_answers", none)) fd
  k__law_answers : PySem.W.keepIn K (.ref (He.fAd K ("_law_answers", none))) = true
  F__law_run : ∃ fd, FunD K "_law_run" "_law_run" (defArgs s__law_run) (defBody s__law_run) (defScope s__law_run) [] [] (He.fAd K ("_law_run", none)) fd
  k__law_run : PySem.W.keepIn K (.ref (He.fAd K ("_law_run", none))) = true
  F_law : ∃ fd, FunD K "law" "law" (defArgs s_law) (defBody s_law) (defScope s_law) [] [] (He.fAd K ("law", none)) fd
  k_law : PySem.W.keepIn K (.ref (He.fAd K ("law", none))) = true
section
variable {P : Program} {w : World} {K : Frag} {mg : Str → Option Value} {base : Heap}
theorem ok__law_draw (T : T0 P K mg) : FR P w K mg base 1 (He.fAd K ("_law_draw", none)) (sp__law_draw K) := by
  obtain ⟨fd, F⟩ := T.F__law_draw
  refine mk_fn F sc__law_draw (fun vs H Q E h => by
    revert h; intro h; (repeat (first | (obtain ⟨rfl, _⟩ := h; exact rfl) | obtain ⟨_, h⟩ := h))) (fun _ _ _ _ _ _ us hl => match us, hl with | [_, _, _], _ => rfl) (t := t__law_draw K) (fun cdv A outer s H E hr => ?_) (fun vs H Q E h => pure__law_draw vs H Q E h)
  exact pss_cons (ps_if (pt_cmp (o_eq hr.units) (pe_ix ix_any (pv 1) (pe_int) (fun _ _ => rfl)) (pe_int) (nomark _)) (pss_cons (ps_set (i := 3) sc__law_draw.nd rfl (Or.inl rfl) (pe_ix ix_any (pv 1) (pe_int) (fun _ _ => rfl)))
    (pss_cons (ps_asg (pe_op o_add (pv 3) (pe_int)) (pg_sub (pv 1) (pe_int) s_list))
    (pss_cons (ps_if (pt_cmp o_ge (pv 3) (pe_cb c_len T.n_len (by decide +kernel) (pa_cons (pv 0) (pa_nil))) (nomark _)) (pss_one (ps_ret (pe_int))) (pss_nil))
    (pss_cons (ps_asg (pe_cb c_abs T.n_abs (by decide +kernel) (pa_cons (pe_ix ix_any (pv 0) (pv 3) (fun _ _ => rfl)) (pa_nil))) (pg_sub (pv 1) (pe_int) s_list))
    (pss_cons (ps_asg (pe_ct c_int T.n_int (by decide +kernel) (pa_cons (pe_cmp o_lt (pe_ix ix_any (pv 0) (pv 3) (fun _ _ => rfl)) (pe_int) (nomark _)) (pa_nil))) (pg_sub (pv 1) (pe_int) s_list))
    (pss_cons (ps_asg (pe_int) (pg_sub (pv 1) (pe_int) s_list))
    (pss_one (ps_if (pt_cmp o_ge (pe_ix ix_any (pv 1) (pe_int) (fun _ _ => rfl)) (pe_op o_pow (pe_int) (pe_int)) (nomark _)) (pss_cons (ps_asg (pe_int) (pg_sub (pv 1) (pe_int) s_list))
    (pss_one (ps_asg (pe_int) (pg_sub (pv 1) (pe_int) s_list)))) (pss_nil))))))))) (pss_nil))
    (pss_stop (pss_cons (ps_asg (pe_op o_sub (pe_ix ix_any (pv 1) (pe_int) (fun _ _ => rfl)) (pe_int)) (pg_sub (pv 1) (pe_int) s_list))
    (pss_stop (pss_cons (ps_set (i := 4) sc__law_draw.nd rfl (Or.inl rfl) (pe_ct c_int T.n_int (by decide +kernel) (pa_cons (pe_ix ix_any (pv 1) (pe_int) (fun _ _ => rfl)) (pa_nil))))
    (pss_stop (pss_cons (ps_if (pt_cmp (o_eq hr.units) (pe_ix ix_any (pv 1) (pe_int) (fun _ _ => rfl)) (pe_int) (nomark _)) (pss_cons (ps_asg (pe_op o_fdiv (pv 4) (pe_int)) (pg_sub (pv 1) (pe_int) s_list))
    (pss_cons (ps_if (pt_cmp (o_eq hr.units) (pe_ix ix_any (pv 1) (pe_int) (fun _ _ => rfl)) (pe_int) (nomark _)) (pss_one (ps_asg (pe_int) (pg_sub (pv 1) (pe_int) s_list))) (pss_nil))
    (pss_cons (ps_set (i := 5) sc__law_draw.nd rfl (Or.inl rfl) (pe_op o_mod (pe_ct c_int T.n_int (by decide +kernel) (pa_cons (pv 4) (pa_nil))) (pe_int)))
    (pss_one (ps_ret (pe_op o_mod (pe_ct c_int T.n_int (by decide +kernel) (pa_cons (pv 5) (pa_nil))) (pv 2))))))) (pss_nil))
    (pss_stop (pss_cons (ps_set (i := 6) sc__law_draw.nd rfl (Or.inl rfl) (pe_op o_mod (pe_ct c_int T.n_int (by decide +kernel) (pa_cons (pe_op o_add (pe_op o_mulA (pv 4) (pe_op o_add (pe_op o_add (pe_int) (pe_op o_mulA (pe_int) (pe_ix ix_any (pv 1) (pe_int) (fun _ _ => rfl)))) (pe_op o_mulA (pe_int) (pe_ix ix_any (pv 1) (pe_int) (fun _ _ => rfl))))) (pe_op o_mulA (pe_int) (pe_ix ix_any (pv 1) (pe_int) (fun _ _ => rfl)))) (pa_nil))) (pe_int)))
    (pss_stop (pss_cons (ps_set (i := 6) sc__law_draw.nd rfl (Or.inl rfl) (pe_op o_mod (pe_ct c_int T.n_int (by decide +kernel) (pa_cons (pe_op o_add (pe_op o_mulA (pv 6) (pv 6)) (pv 4)) (pa_nil))) (pe_int)))
    (pss_stop (pss_cons (ps_set (i := 6) sc__law_draw.nd rfl (Or.inl rfl) (pe_op o_mod (pe_ct c_int T.n_int (by decide +kernel) (pa_cons (pe_op o_mulA (pv 6) (pv 6)) (pa_nil))) (pe_int)))
    (pss_stop (pss_one (ps_ret (pe_op o_mod (pe_ct c_int T.n_int (by decide +kernel) (pa_cons (pv 6) (pa_nil))) (pv 2)))))))))))))))))
theorem ok__law_table (T : T0 P K mg) : FR P w K mg base 2 (He.fAd K ("_law_table", none)) (sp__law_table K) := by
  obtain ⟨fd, F⟩ := T.F__law_table
  have G__law_draw := ok__law_draw (P := P) (w := w) (base := base) T
  refine mk_fn F sc__law_table (fun vs H Q E h => by
    revert h; intro h; (repeat (first | (obtain ⟨rfl, _⟩ := h; exact rfl) | obtain ⟨_, h⟩ := h))) (fun _ _ _ _ _ _ us hl => match us, hl with | [_, _, _], _ => rfl) (t := t__law_table K) (fun cdv A outer s H E hr => ?_) (fun vs H Q E h => pure__law_table vs H Q E h)
  exact pss_cons (ps_set (i := 3) sc__law_table.nd rfl (Or.inl rfl) (pe_call (G__law_draw) (hr.mono (by decide)) T.g__law_draw T.k__law_draw passD (pa_cons (pv 0) (pa_cons (pv 1) (pa_cons (pe_op o_add (pv 2) (pe_int)) (pa_nil))))))
    (pss_stop (pss_cons (ps_setLc (i := 4) (own := [("_law_k", 6)]) rfl sc__law_table.nd rfl rfl (sw_true rfl rfl rfl (by decide +kernel)) (pi_rng (by rfl) T.n_range (pa_cons (pe_op o_add (pv 3) (pe_int)) (pa_nil))) (blkOk_by (own := [("_law_k", 6)]) (N := ["_law_script", "_law_state", "_law_most", "_law_many", "_law_counts", "_law_levels", "_law_k", "_law_pairs", "_law_node", "_law_low"]) (sc := defScope s__law_table) (by decide +kernel)) (fun _ _ _ _ _ => pg_name (i := 6) sc__law_table.nd rfl (Or.inl rfl)) (fun _ _ _ _ _ => pts_nil) (fun _ _ _ _ _ => pe_op o_add (pe_int) (pe_call (G__law_draw) (hr.mono (by decide)) T.g__law_draw T.k__law_draw passL0 (pa_cons (pv 0) (pa_cons (pv 1) (pa_cons (pe_int) (pa_nil)))))))
    (pss_stop (pss_cons (ps_set (i := 5) sc__law_table.nd rfl (Or.inl rfl) (pe_lst (pa_nil)))
    (pss_stop (pss_cons (ps_for ownD rfl (pi_rng (by rfl) T.n_range (pa_cons (pv 3) (pa_nil))) (pg_name (i := 6) sc__law_table.nd rfl (Or.inl rfl)) (pss_cons (ps_set (i := 7) sc__law_table.nd rfl (Or.inl rfl) (pe_lst (pa_nil)))
    (pss_stop (pss_cons (ps_for ownD rfl (pi_rng (by rfl) T.n_range (pa_cons (pe_ix ix_any (pv 4) (pv 6) (fun _ _ => rfl)) (pa_nil))) (pg_name (i := 8) sc__law_table.nd rfl (Or.inl rfl)) (pss_cons (ps_set (i := 9) sc__law_table.nd rfl (Or.inl rfl) (pe_call (G__law_draw) (hr.mono (by decide)) T.g__law_draw T.k__law_draw passD (pa_cons (pv 0) (pa_cons (pv 1) (pa_cons (pe_ix ix_any (pv 4) (pe_op o_add (pv 6) (pe_int)) (fun _ _ => rfl)) (pa_nil))))))
    (pss_stop (pss_one (ps_expr (pe_ml PySem.F.slot_list_append PySem.F.type_list_append m_app (pv 7) (pa_cons (pe_tup (pa_cons (pv 9) (pa_cons (pe_call (G__law_draw) (hr.mono (by decide)) T.g__law_draw T.k__law_draw passD (pa_cons (pv 0) (pa_cons (pv 1) (pa_cons (pe_ix ix_any (pv 4) (pe_op o_add (pv 6) (pe_int)) (fun _ _ => rfl)) (pa_nil))))) (pa_nil)))) (pa_nil))))))))
    (pss_stop (pss_one (ps_expr (pe_ml PySem.F.slot_list_append PySem.F.type_list_append m_app (pv 5) (pa_cons (pv 7) (pa_nil))))))))))
    (pss_stop (pss_one (ps_ret (pe_tup (pa_cons (pv 5) (pa_cons (pe_lc (own := [("_law_k", 6)]) rfl sc__law_table.nd (pi_rng (by rfl) T.n_range (pa_cons (pe_ix ix_any (pv 4) (pv 3) (fun _ _ => rfl)) (pa_nil))) (blkOk_by (own := [("_law_k", 6)]) (N := ["_law_script", "_law_state", "_law_most", "_law_many", "_law_counts", "_law_levels", "_law_k", "_law_pairs", "_law_node", "_law_low"]) (sc := defScope s__law_table) (by decide +kernel)) (fun _ _ _ _ _ => pg_name (i := 6) sc__law_table.nd rfl (Or.inl rfl)) (fun _ _ _ _ _ => pts_nil) (fun _ _ _ _ _ => pe_ix ix_any (pe_lst (pa_cons (pe_bl) (pa_cons (pe_bl) (pa_cons (pe_non) (pa_nil))))) (pe_call (G__law_draw) (hr.mono (by decide)) T.g__law_draw T.k__law_draw passL0 (pa_cons (pv 0) (pa_cons (pv 1) (pa_cons (pe_int) (pa_nil))))) (fun _ _ => rfl))) (pa_nil)))))))))))))
theorem ok__law_ids (T : T0 P K mg) : FR P w K mg base 2 (He.fAd K ("_law_ids", none)) (sp__law_ids K) := by
  obtain ⟨fd, F⟩ := T.F__law_ids
  have G__law_draw := ok__law_draw (P := P) (w := w) (base := base) T
  refine mk_fn F sc__law_ids (fun vs H Q E h => by
    revert h; intro h; (repeat (first | (obtain ⟨rfl, _⟩ := h; exact rfl) | obtain ⟨_, h⟩ := h))) (fun _ _ _ _ _ _ us hl => match us, hl with | [_, _, _], _ => rfl) (t := t__law_ids K) (fun cdv A outer s H E hr => ?_) (fun vs H Q E h => pure__law_ids vs H Q E h)
  exact pss_cons (ps_set (i := 3) sc__law_ids.nd rfl (Or.inr rfl) (pe_call (G__law_draw) (hr.mono (by decide)) T.g__law_draw T.k__law_draw passD (pa_cons (pv 0) (pa_cons (pv 1) (pa_cons (pv 2) (pa_nil))))))
    (pss_stop (pss_cons (ps_setLc (i := 4) (own := [("_law_k", 5)]) rfl sc__law_ids.nd rfl rfl (sw_true rfl rfl rfl (by decide +kernel)) (pi_rng (by rfl) T.n_range (pa_cons (pv 2) (pa_nil))) (blkOk_by (own := [("_law_k", 5)]) (N := ["_law_script", "_law_state", "_law_count", "_law_shift", "_law_ids_here", "_law_k"]) (sc := defScope s__law_ids) (by decide +kernel)) (fun _ _ _ _ _ => pg_name (i := 5) sc__law_ids.nd rfl (Or.inl rfl)) (fun _ _ _ _ _ => pts_nil) (fun _ _ _ _ _ => pe_op o_mod (pe_ct c_int T.n_int (by decide +kernel) (pa_cons (pe_op o_add (pv 3) (pv 5)) (pa_nil))) (pv 2)))
    (pss_stop (pss_cons (ps_for ownD rfl (pi_rng (by rfl) T.n_range (pa_cons (pe_call (G__law_draw) (hr.mono (by decide)) T.g__law_draw T.k__law_draw passD (pa_cons (pv 0) (pa_cons (pv 1) (pa_cons (pe_int) (pa_nil))))) (pa_nil))) (pg_name (i := 5) sc__law_ids.nd rfl (Or.inl rfl)) (pss_one (ps_expr (pe_ml PySem.F.slot_list_append PySem.F.type_list_append m_app (pv 4) (pa_cons (pe_call (G__law_draw) (hr.mono (by decide)) T.g__law_draw T.k__law_draw passD (pa_cons (pv 0) (pa_cons (pv 1) (pa_cons (pv 2) (pa_nil))))) (pa_nil))))))
    (pss_stop (pss_one (ps_ret (pv 4))))))))
theorem ok__law_place (T : T0 P K mg) : FR P w K mg base 2 (He.fAd K ("_law_place", none)) (sp__law_place K) := by
  obtain ⟨fd, F⟩ := T.F__law_place
  have G__law_draw := ok__law_draw (P := P) (w := w) (base := base) T
  refine mk_fn F sc__law_place (fun vs H Q E h => by
    revert h; intro h; (repeat (first | (obtain ⟨rfl, _⟩ := h; exact rfl) | obtain ⟨_, h⟩ := h))) (fun _ _ _ _ _ _ us hl => match us, hl with | [_, _, _, _], _ => rfl) (t := t__law_place K) (fun cdv A outer s H E hr => ?_) (fun vs H Q E h => pure__law_place vs H Q E h)
  exact pss_cons (ps_setLc (i := 4) (own := [("_law_k", 5)]) rfl sc__law_place.nd rfl rfl (sw_true rfl rfl rfl (by decide +kernel)) (pi_rng (by rfl) T.n_range (pa_cons (pe_cb c_len T.n_len (by decide +kernel) (pa_cons (pv 2) (pa_nil))) (pa_nil))) (blkOk_by (own := [("_law_k", 5)]) (N := ["_law_script", "_law_state", "_law_ids_here", "_law_node", "_law_places", "_law_k"]) (sc := defScope s__law_place) (by decide +kernel)) (fun _ _ _ _ _ => pg_name (i := 5) sc__law_place.nd rfl (Or.inl rfl)) (fun _ _ _ _ _ => pts_one (pt_cmp (o_eq hr.units) (pe_ix ix_any (pv 2) (pv 5) (fun _ _ => rfl)) (pv 3) (nomark _))) (fun _ _ _ _ _ => pv 5))
    (pss_stop (pss_one (ps_ret (pe_ix ix_any (pv 4) (pe_call (G__law_draw) (hr.mono (by decide)) T.g__law_draw T.k__law_draw passD (pa_cons (pv 0) (pa_cons (pv 1) (pa_cons (pe_cb c_len T.n_len (by decide +kernel) (pa_cons (pv 4) (pa_nil))) (pa_nil))))) (fun _ _ => rfl)))))
theorem ok__law_twin (T : T0 P K mg) : FR P w K mg base 3 (He.fAd K ("_law_twin", none)) (sp__law_twin K) := by
  obtain ⟨fd, F⟩ := T.F__law_twin
  have G__law_ids := ok__law_ids (P := P) (w := w) (base := base) T
  have G__law_place := ok__law_place (P := P) (w := w) (base := base) T
  refine mk_fn F sc__law_twin (fun vs H Q E h => by
    revert h; intro h; (repeat (first | (obtain ⟨rfl, _⟩ := h; exact rfl) | obtain ⟨_, h⟩ := h))) (fun _ _ _ _ _ _ us hl => match us, hl with | [_, _, _], _ => rfl) (t := t__law_twin K) (fun cdv A outer s H E hr => ?_) (fun vs H Q E h => pure__law_twin vs H Q E h)
  exact pss_cons (ps_set (i := 3) sc__law_twin.nd rfl (Or.inl rfl) (pe_op o_add (pe_lc (own := [("_law_pairs", 8)]) rfl sc__law_twin.nd (pi_seq (pe_ix ix_any (pv 2) (pe_int) (fun _ _ => rfl))) (blkOk_by (own := [("_law_pairs", 8)]) (N := ["_law_script", "_law_state", "_law_table_here", "_law_counts", "_law_ids_here", "_law_count", "_law_levels", "_law_k", "_law_pairs", "_law_node", "_law_low"]) (sc := defScope s__law_twin) (by decide +kernel)) (fun _ _ _ _ _ => pg_name (i := 8) sc__law_twin.nd rfl (Or.inl rfl)) (fun _ _ _ _ _ => pts_nil) (fun _ _ _ _ _ => pe_cb c_len T.n_len (by decide +kernel) (pa_cons (pv 8) (pa_nil)))) (pe_lst (pa_cons (pe_cb c_len T.n_len (by decide +kernel) (pa_cons (pe_ix ix_any (pv 2) (pe_int) (fun _ _ => rfl)) (pa_nil))) (pa_nil)))))
    (pss_stop (pss_cons (ps_set (i := 4) sc__law_twin.nd rfl (Or.inl rfl) (pe_lst (pa_nil)))
    (pss_stop (pss_cons (ps_for ownD rfl (pi_seq (pv 3)) (pg_name (i := 5) sc__law_twin.nd rfl (Or.inl rfl)) (pss_one (ps_expr (pe_ml PySem.F.slot_list_append PySem.F.type_list_append m_app (pv 4) (pa_cons (pe_call (G__law_ids) (hr.mono (by decide)) T.g__law_ids T.k__law_ids passD (pa_cons (pv 0) (pa_cons (pv 1) (pa_cons (pv 5) (pa_nil))))) (pa_nil))))))
    (pss_stop (pss_cons (ps_asg (pe_op o_add (pe_lst (pa_cons (pe_int) (pa_nil))) (pe_ix ix_any (pv 4) (pe_int) (fun _ _ => rfl))) (pg_sub (pv 4) (pe_int) s_list))
    (pss_stop (pss_cons (ps_set (i := 6) sc__law_twin.nd rfl (Or.inl rfl) (pe_lst (pa_nil)))
    (pss_stop (pss_cons (ps_for ownD rfl (pi_rng (by rfl) T.n_range (pa_cons (pe_cb c_len T.n_len (by decide +kernel) (pa_cons (pe_ix ix_any (pv 2) (pe_int) (fun _ _ => rfl)) (pa_nil))) (pa_nil))) (pg_name (i := 7) sc__law_twin.nd rfl (Or.inl rfl)) (pss_cons (ps_set (i := 8) sc__law_twin.nd rfl (Or.inl rfl) (pe_lst (pa_nil)))
    (pss_stop (pss_cons (ps_for ownD rfl (pi_seq (pe_ix ix_any (pv 4) (pv 7) (fun _ _ => rfl))) (pg_name (i := 9) sc__law_twin.nd rfl (Or.inl rfl)) (pss_cons (ps_set (i := 10) sc__law_twin.nd rfl (Or.inl rfl) (pe_call (G__law_place) (hr.mono (by decide)) T.g__law_place T.k__law_place passD (pa_cons (pv 0) (pa_cons (pv 1) (pa_cons (pe_ix ix_any (pv 4) (pe_op o_add (pv 7) (pe_int)) (fun _ _ => rfl)) (pa_cons (pe_ix ix_any (pe_ix ix_any (pe_ix ix_any (pe_ix ix_any (pv 2) (pe_int) (fun _ _ => rfl)) (pv 7) (fun _ _ => rfl)) (pv 9) (fun _ _ => rfl)) (pe_int) (fun _ _ => rfl)) (pa_nil)))))))
    (pss_stop (pss_one (ps_expr (pe_ml PySem.F.slot_list_append PySem.F.type_list_append m_app (pv 8) (pa_cons (pe_tup (pa_cons (pv 10) (pa_cons (pe_call (G__law_place) (hr.mono (by decide)) T.g__law_place T.k__law_place passD (pa_cons (pv 0) (pa_cons (pv 1) (pa_cons (pe_ix ix_any (pv 4) (pe_op o_add (pv 7) (pe_int)) (fun _ _ => rfl)) (pa_cons (pe_ix ix_any (pe_ix ix_any (pe_ix ix_any (pe_ix ix_any (pv 2) (pe_int) (fun _ _ => rfl)) (pv 7) (fun _ _ => rfl)) (pv 9) (fun _ _ => rfl)) (pe_int) (fun _ _ => rfl)) (pa_nil)))))) (pa_nil)))) (pa_nil))))))))
    (pss_stop (pss_one (ps_expr (pe_ml PySem.F.slot_list_append PySem.F.type_list_append m_app (pv 6) (pa_cons (pv 8) (pa_nil))))))))))
    (pss_stop (pss_one (ps_ret (pe_tup (pa_cons (pv 6) (pa_cons (pe_lc (own := [("_law_node", 9)]) rfl sc__law_twin.nd (pi_seq (pe_ix ix_any (pv 4) (pe_cb c_len T.n_len (by decide +kernel) (pa_cons (pe_ix ix_any (pv 2) (pe_int) (fun _ _ => rfl)) (pa_nil))) (fun _ _ => rfl))) (blkOk_by (own := [("_law_node", 9)]) (N := ["_law_script", "_law_state", "_law_table_here", "_law_counts", "_law_ids_here", "_law_count", "_law_levels", "_law_k", "_law_pairs", "_law_node", "_law_low"]) (sc := defScope s__law_twin) (by decide +kernel)) (fun _ _ _ _ _ => pg_name (i := 9) sc__law_twin.nd rfl (Or.inl rfl)) (fun _ _ _ _ _ => pts_nil) (fun _ _ _ _ _ => pe_ix ix_any (pe_ix ix_any (pv 2) (pe_int) (fun _ _ => rfl)) (pv 9) (fun _ _ => rfl))) (pa_nil)))))))))))))))))
theorem ok__law_changed (T : T0 P K mg) : FR P w K mg base 2 (He.fAd K ("_law_changed", none)) (sp__law_changed K) := by
  obtain ⟨fd, F⟩ := T.F__law_changed
  have G__law_draw := ok__law_draw (P := P) (w := w) (base := base) T
  refine mk_fn F sc__law_changed (fun vs H Q E h => by
    revert h; intro h; (repeat (first | (obtain ⟨rfl, _⟩ := h; exact rfl) | obtain ⟨_, h⟩ := h))) (fun _ _ _ _ _ _ us hl => match us, hl with | [_, _, _], _ => rfl) (t := t__law_changed K) (fun cdv A outer s H E hr => ?_) (fun vs H Q E h => pure__law_changed vs H Q E h)
  exact pss_cons (ps_setLc (i := 3) (own := [("_law_pairs", 8)]) rfl sc__law_changed.nd rfl rfl (sw_true rfl rfl rfl (by decide +kernel)) (pi_seq (pe_ix ix_any (pv 2) (pe_int) (fun _ _ => rfl))) (blkOk_by (own := [("_law_pairs", 8)]) (N := ["_law_script", "_law_state", "_law_table_here", "_law_levels", "_law_ends", "_law_level", "_law_node", "_law_below", "_law_pairs", "_law_at"]) (sc := defScope s__law_changed) (by decide +kernel)) (fun _ _ _ _ _ => pg_name (i := 8) sc__law_changed.nd rfl (Or.inl rfl)) (fun _ _ _ _ _ => pts_nil) (fun _ _ _ _ _ => pe_ct c_list T.n_list (by decide +kernel) (pa_cons (pv 8) (pa_nil))))
    (pss_stop (pss_cons (ps_set (i := 4) sc__law_changed.nd rfl (Or.inl rfl) (pe_ct c_list T.n_list (by decide +kernel) (pa_cons (pe_ix ix_any (pv 2) (pe_int) (fun _ _ => rfl)) (pa_nil))))
    (pss_stop (pss_cons (ps_if (PW.pt (pw_and (pt_cmp (o_eq hr.units) (pe_call (G__law_draw) (hr.mono (by decide)) T.g__law_draw T.k__law_draw passD (pa_cons (pv 0) (pa_cons (pv 1) (pa_cons (pe_int) (pa_nil))))) (pe_int) (nomark _)) (pw_and1 (pt_cmp o_gt (pe_cb c_len T.n_len (by decide +kernel) (pa_cons (pv 3) (pa_nil))) (pe_int) (nomark _))))) (pss_cons (ps_set (i := 5) sc__law_changed.nd rfl (Or.inl rfl) (pe_call (G__law_draw) (hr.mono (by decide)) T.g__law_draw T.k__law_draw passD (pa_cons (pv 0) (pa_cons (pv 1) (pa_cons (pe_cb c_len T.n_len (by decide +kernel) (pa_cons (pv 3) (pa_nil))) (pa_nil))))))
    (pss_cons (ps_set (i := 6) sc__law_changed.nd rfl (Or.inl rfl) (pe_call (G__law_draw) (hr.mono (by decide)) T.g__law_draw T.k__law_draw passD (pa_cons (pv 0) (pa_cons (pv 1) (pa_cons (pe_cb c_len T.n_len (by decide +kernel) (pa_cons (pe_ix ix_any (pv 3) (pv 5) (fun _ _ => rfl)) (pa_nil))) (pa_nil))))))
    (pss_cons (ps_set (i := 7) sc__law_changed.nd rfl (Or.inl rfl) (pe_cb c_len T.n_len (by decide +kernel) (pa_cons (pv 4) (pa_nil))))
    (pss_cons (ps_if (pt_cmp o_lt (pe_op o_add (pv 5) (pe_int)) (pe_cb c_len T.n_len (by decide +kernel) (pa_cons (pv 3) (pa_nil))) (nomark _)) (pss_one (ps_set (i := 7) sc__law_changed.nd rfl (Or.inl rfl) (pe_cb c_len T.n_len (by decide +kernel) (pa_cons (pe_ix ix_any (pv 3) (pe_op o_add (pv 5) (pe_int)) (fun _ _ => rfl)) (pa_nil))))) (pss_nil))
    (pss_cons (ps_set (i := 8) sc__law_changed.nd rfl (Or.inl rfl) (pe_ix ix_any (pv 3) (pv 5) (fun _ _ => rfl)))
    (pss_one (ps_asg (pe_tup (pa_cons (pe_ix ix_any (pe_ix ix_any (pv 8) (pv 6) (fun _ _ => rfl)) (pe_int) (fun _ _ => rfl)) (pa_cons (pe_call (G__law_draw) (hr.mono (by decide)) T.g__law_draw T.k__law_draw passD (pa_cons (pv 0) (pa_cons (pv 1) (pa_cons (pv 7) (pa_nil))))) (pa_nil)))) (pg_sub (pv 8) (pv 6) s_list)))))))) (pss_cons (ps_set (i := 9) sc__law_changed.nd rfl (Or.inl rfl) (pe_call (G__law_draw) (hr.mono (by decide)) T.g__law_draw T.k__law_draw passD (pa_cons (pv 0) (pa_cons (pv 1) (pa_cons (pe_cb c_len T.n_len (by decide +kernel) (pa_cons (pv 4) (pa_nil))) (pa_nil))))))
    (pss_one (ps_if (pt_cmp o_isT (pe_ix ix_any (pv 4) (pv 9) (fun _ _ => rfl)) (pe_bl) (nomark _)) (pss_one (ps_asg (pe_bl) (pg_sub (pv 4) (pv 9) s_list))) (pss_one (ps_if (pt_cmp o_isT (pe_ix ix_any (pv 4) (pv 9) (fun _ _ => rfl)) (pe_bl) (nomark _)) (pss_one (ps_asg (pe_non) (pg_sub (pv 4) (pv 9) s_list))) (pss_one (ps_asg (pe_bl) (pg_sub (pv 4) (pv 9) s_list)))))))))
    (pss_stop (pss_one (ps_ret (pe_tup (pa_cons (pv 3) (pa_cons (pv 4) (pa_nil)))))))))))
theorem ok_numbered_once (T : T0 P K mg) : FR P w K mg base 1 (He.fAd K ("numbered_once", none)) (sp_numbered_once K) := by
  obtain ⟨fd, F⟩ := T.F_numbered_once
  refine mk_fn F sc_numbered_once (fun vs H Q E h => by
    revert h; intro h; (repeat (first | (obtain ⟨rfl, _⟩ := h; exact rfl) | obtain ⟨_, h⟩ := h))) (fun _ _ _ _ _ _ us hl => match us, hl with | [_], _ => rfl) (t := t_numbered_once K) (fun cdv A outer s H E hr => ?_) (fun vs H Q E h => pure_numbered_once vs H Q E h)
  exact pss_cons (ps_set (i := 1) sc_numbered_once.nd rfl (Or.inl rfl) (pe_newX))
    (pss_stop (pss_cons (ps_set (i := 2) sc_numbered_once.nd rfl (Or.inl rfl) (pe_lst (pa_nil)))
    (pss_stop (pss_cons (ps_for ownD rfl (pi_seq (pv 0)) (pg_name (i := 3) sc_numbered_once.nd rfl (Or.inl rfl)) (pss_one (ps_expr (pe_ml PySem.F.slot_list_append PySem.F.type_list_append m_app (pv 2) (pa_cons (pe_setd hr.units (pv 1) (pv 3) (pe_cb c_lenD T.n_len (by decide +kernel) (pa_cons (pv 1) (pa_nil)))) (pa_nil))))))
    (pss_stop (pss_one (ps_ret (pv 2))))))))
theorem ok_class_levels (T : T0 P K mg) : FR P w K mg base 2 (He.fAd K ("class_levels", none)) (sp_class_levels K) := by
  obtain ⟨fd, F⟩ := T.F_class_levels
  have G_numbered_once := ok_numbered_once (P := P) (w := w) (base := base) T
  refine mk_fn F sc_class_levels (fun vs H Q E h => by
    revert h; intro h; (repeat (first | (obtain ⟨rfl, _⟩ := h; exact rfl) | obtain ⟨_, h⟩ := h))) (fun _ _ _ _ _ _ us hl => match us, hl with | [_, _], _ => rfl) (t := t_class_levels K) (fun cdv A outer s H E hr => ?_) (fun vs H Q E h => pure_class_levels vs H Q E h)
  exact pss_cons (ps_set (i := 2) sc_class_levels.nd rfl (Or.inl rfl) (pe_lst (pa_cons (pe_call (G_numbered_once) (hr.mono (by decide)) T.g_numbered_once T.k_numbered_once passD (pa_cons (pv 1) (pa_nil))) (pa_nil))))
    (pss_stop (pss_cons (ps_for ownD rfl (pi_rev (by rfl) T.n_reversed (pe_ct c_list T.n_list (by decide +kernel) (pa_cons (pv 0) (pa_nil)))) (pg_name (i := 3) sc_class_levels.nd rfl (Or.inl rfl)) (pss_cons (ps_set (i := 4) sc_class_levels.nd rfl (Or.inr rfl) (pe_ix ix_any (pv 2) (pe_un u_neg (pe_int)) (fun _ _ => rfl)))
    (pss_stop (pss_one (ps_expr (pe_ml PySem.F.slot_list_append PySem.F.type_list_append m_app (pv 2) (pa_cons (pe_call (G_numbered_once) (hr.mono (by decide)) T.g_numbered_once T.k_numbered_once passD (pa_cons (pe_lc (own := [("low", 5), ("high", 6)]) rfl sc_class_levels.nd (pi_seq (pv 3)) (blkOk_by (own := [("low", 5), ("high", 6)]) (N := ["levels", "ends", "classes", "pairs", "below", "low", "high"]) (sc := defScope s_class_levels) (by decide +kernel)) (fun _ _ _ _ _ => pg_tup rfl (pgs_cons (pg_name (i := 5) sc_class_levels.nd rfl (Or.inl rfl)) (pgs_cons (pg_name (i := 6) sc_class_levels.nd rfl (Or.inl rfl)) (pgs_nil)))) (fun _ _ _ _ _ => pts_nil) (fun _ _ _ _ _ => pe_tupK (pa_cons (pe_ix ix_any (pv 4) (pv 5) (fun _ _ => rfl)) (pa_cons (pe_ix ix_any (pv 4) (pv 6) (fun _ _ => rfl)) (pa_nil))))) (pa_nil))) (pa_nil))))))))
    (pss_stop (pss_cons (ps_expr (pe_ml0 PySem.F.slot_list_reverse PySem.F.type_list_reverse m_rev (pv 2)))
    (pss_stop (pss_one (ps_ret (pv 2))))))))
theorem ok_first_nodes (T : T0 P K mg) : FR P w K mg base 1 (He.fAd K ("first_nodes", none)) (sp_first_nodes K) := by
  obtain ⟨fd, F⟩ := T.F_first_nodes
  refine mk_fn F sc_first_nodes (fun vs H Q E h => by
    revert h; intro h; (repeat (first | (obtain ⟨rfl, _⟩ := h; exact rfl) | obtain ⟨_, h⟩ := h))) (fun _ _ _ _ _ _ us hl => match us, hl with | [_], _ => rfl) (t := t_first_nodes K) (fun cdv A outer s H E hr => ?_) (fun vs H Q E h => pure_first_nodes vs H Q E h)
  exact pss_cons (ps_set (i := 1) sc_first_nodes.nd rfl (Or.inl rfl) (pe_newX))
    (pss_stop (pss_cons (ps_for ownD rfl (pi_enA T.n_enumerate (pv 0)) (pg_tup rfl (pgs_cons (pg_name (i := 2) sc_first_nodes.nd rfl (Or.inl rfl)) (pgs_cons (pg_name (i := 3) sc_first_nodes.nd rfl (Or.inl rfl)) (pgs_nil)))) (pss_one (ps_expr (pe_setd hr.units (pv 1) (pv 3) (pv 2)))))
    (pss_stop (pss_one (ps_ret (pv 1))))))
theorem ok_reduced (T : T0 P K mg) : FR P w K mg base 3 (He.fAd K ("reduced", none)) (sp_reduced K) := by
  obtain ⟨fd, F⟩ := T.F_reduced
  have G_class_levels := ok_class_levels (P := P) (w := w) (base := base) T
  have G_first_nodes := ok_first_nodes (P := P) (w := w) (base := base) T
  refine mk_fn F sc_reduced (fun vs H Q E h => by
    revert h; intro h; (repeat (first | (obtain ⟨rfl, _⟩ := h; exact rfl) | obtain ⟨_, h⟩ := h))) (fun _ _ _ _ _ _ us hl => match us, hl with | [_, _], _ => rfl) (t := t_reduced K) (fun cdv A outer s H E hr => ?_) (fun vs H Q E h => pure_reduced vs H Q E h)
  exact pss_cons (ps_set (i := 2) sc_reduced.nd rfl (Or.inl rfl) (pe_call (G_class_levels) (hr.mono (by decide)) T.g_class_levels T.k_class_levels passD (pa_cons (pv 0) (pa_cons (pv 1) (pa_nil)))))
    (pss_stop (pss_cons (ps_set (i := 3) sc_reduced.nd rfl (Or.inl rfl) (pe_lst (pa_cons (pe_ix ix_any (pe_ix ix_any (pv 2) (pe_int) (fun _ _ => rfl)) (pe_int) (fun _ _ => rfl)) (pa_nil))))
    (pss_stop (pss_cons (ps_set (i := 4) sc_reduced.nd rfl (Or.inl rfl) (pe_lst (pa_nil)))
    (pss_stop (pss_cons (ps_for ownD rfl (pi_enA T.n_enumerate (pv 0)) (pg_tup rfl (pgs_cons (pg_name (i := 5) sc_reduced.nd rfl (Or.inl rfl)) (pgs_cons (pg_name (i := 6) sc_reduced.nd rfl (Or.inl rfl)) (pgs_nil)))) (pss_cons (ps_set (i := 7) sc_reduced.nd rfl (Or.inl rfl) (pe_call (G_first_nodes) (hr.mono (by decide)) T.g_first_nodes T.k_first_nodes passD (pa_cons (pe_ix ix_any (pv 2) (pv 5) (fun _ _ => rfl)) (pa_nil))))
    (pss_stop (pss_cons (ps_set (i := 8) sc_reduced.nd rfl (Or.inl rfl) (pe_ix ix_any (pv 2) (pe_op o_add (pv 5) (pe_int)) (fun _ _ => rfl)))
    (pss_stop (pss_cons (ps_set (i := 9) sc_reduced.nd rfl (Or.inl rfl) (pe_newX))
    (pss_stop (pss_cons (ps_set (i := 10) sc_reduced.nd rfl (Or.inl rfl) (pe_lst (pa_nil)))
    (pss_stop (pss_cons (ps_for ownD rfl (pi_seq (pv 3)) (pg_name (i := 11) sc_reduced.nd rfl (Or.inl rfl)) (pss_cons (ps_asg (pe_ix ix_any (pv 6) (pe_ix (ix_dictN hr.units) (pv 7) (pv 11) (fun _ _ => rfl)) (fun _ _ => rfl)) (pg_tup rfl (pgs_cons (pg_name (i := 12) sc_reduced.nd rfl (Or.inl rfl)) (pgs_cons (pg_name (i := 13) sc_reduced.nd rfl (Or.inl rfl)) (pgs_nil)))))
    (pss_stop (pss_cons (ps_set (i := 14) sc_reduced.nd rfl (Or.inl rfl) (pe_setd hr.units (pv 9) (pe_ix ix_any (pv 8) (pv 12) (fun _ _ => rfl)) (pe_cb c_lenD T.n_len (by decide +kernel) (pa_cons (pv 9) (pa_nil)))))
    (pss_stop (pss_cons (ps_set (i := 15) sc_reduced.nd rfl (Or.inl rfl) (pe_setd hr.units (pv 9) (pe_ix ix_any (pv 8) (pv 13) (fun _ _ => rfl)) (pe_cb c_lenD T.n_len (by decide +kernel) (pa_cons (pv 9) (pa_nil)))))
    (pss_stop (pss_one (ps_expr (pe_ml PySem.F.slot_list_append PySem.F.type_list_append m_app (pv 10) (pa_cons (pe_tupK (pa_cons (pv 14) (pa_cons (pv 15) (pa_nil)))) (pa_nil))))))))))))
    (pss_stop (pss_cons (ps_expr (pe_ml PySem.F.slot_list_append PySem.F.type_list_append m_app (pv 4) (pa_cons (pe_ct c_tuple T.n_tuple (by decide +kernel) (pa_cons (pv 10) (pa_nil))) (pa_nil))))
    (pss_stop (pss_one (ps_set (i := 3) sc_reduced.nd rfl (Or.inl rfl) (pe_ct (c_listX rfl) T.n_list (by decide +kernel) (pa_cons (pv 9) (pa_nil))))))))))))))))))
    (pss_stop (pss_cons (ps_set (i := 16) sc_reduced.nd rfl (Or.inr rfl) (pe_call (G_first_nodes) (hr.mono (by decide)) T.g_first_nodes T.k_first_nodes passD (pa_cons (pe_ix ix_any (pv 2) (pe_un u_neg (pe_int)) (fun _ _ => rfl)) (pa_nil))))
    (pss_stop (pss_one (ps_ret (pe_tupK (pa_cons (pe_ct c_tuple T.n_tuple (by decide +kernel) (pa_cons (pv 4) (pa_nil))) (pa_cons (pe_ct c_tuple T.n_tuple (by decide +kernel) (pa_cons (pe_lc (own := [("number", 11)]) rfl sc_reduced.nd (pi_seq (pv 3)) (blkOk_by (own := [("number", 11)]) (N := ["levels", "ends", "classes", "current", "result", "level", "pairs", "first", "below", "visited", "row", "number", "low", "high", "left", "right", "last"]) (sc := defScope s_reduced) (by decide +kernel)) (fun _ _ _ _ _ => pg_name (i := 11) sc_reduced.nd rfl (Or.inl rfl)) (fun _ _ _ _ _ => pts_nil) (fun _ _ _ _ _ => pe_ix ix_any (pv 1) (pe_ix (ix_dictN hr.units) (pv 16) (pv 11) (fun _ _ => rfl)) (fun _ _ => rfl))) (pa_nil))) (pa_nil)))))))))))))))
theorem ok__law_same (T : T0 P K mg) : FR P w K mg base 1 (He.fAd K ("_law_same", none)) (sp__law_same K) := by
  obtain ⟨fd, F⟩ := T.F__law_same
  refine mk_fn F sc__law_same (fun vs H Q E h => by
    revert h; intro h; (repeat (first | (obtain ⟨rfl, _⟩ := h; exact rfl) | obtain ⟨_, h⟩ := h))) (fun _ _ _ _ _ _ us hl => match us, hl with | [_, _], _ => rfl) (t := t__law_same K) (fun cdv A outer s H E hr => ?_) (fun vs H Q E h => pure__law_same vs H Q E h)
  exact pss_cons (ps_if (pt_cmp o_isT (pv 1) (pe_bl) (nomark _)) (pss_one (ps_ret (pe_cmp o_isT (pv 0) (pe_bl) (nomark _)))) (pss_nil))
    (pss_stop (pss_cons (ps_if (pt_cmp o_isT (pv 1) (pe_bl) (nomark _)) (pss_one (ps_ret (pe_cmp o_isT (pv 0) (pe_bl) (nomark _)))) (pss_nil))
    (pss_stop (pss_one (ps_ret (pe_cmp o_isN (pv 0) (pe_non) (nomark _)))))))
theorem ok__law_answers (T : T0 P K mg) : FR P w K mg base 2 (He.fAd K ("_law_answers", none)) (sp__law_answers K) := by
  obtain ⟨fd, F⟩ := T.F__law_answers
  have G__law_same := ok__law_same (P := P) (w := w) (base := base) T
  refine mk_fn F sc__law_answers (fun vs H Q E h => by
    revert h; intro h; (repeat (first | (obtain ⟨rfl, _⟩ := h; exact rfl) | obtain ⟨_, h⟩ := h))) (fun _ _ _ _ _ _ us hl => match us, hl with | [_, _], _ => rfl) (t := t__law_answers K) (fun cdv A outer s H E hr => ?_) (fun vs H Q E h => pure__law_answers vs H Q E h)
  exact pss_cons (ps_if (pt_cmp (o_ne hr.units) (pe_cb c_len T.n_len (by decide +kernel) (pa_cons (pv 0) (pa_nil))) (pe_cb c_len T.n_len (by decide +kernel) (pa_cons (pv 1) (pa_nil))) (nomark _)) (pss_one (ps_ret (pe_bl))) (pss_nil))
    (pss_stop (pss_cons (ps_for ownD rfl (pi_rng (by rfl) T.n_range (pa_cons (pe_cb c_len T.n_len (by decide +kernel) (pa_cons (pv 1) (pa_nil))) (pa_nil))) (pg_name (i := 2) sc__law_answers.nd rfl (Or.inl rfl)) (pss_one (ps_if (pt_not (pt_of (pe_call (G__law_same) (hr.mono (by decide)) T.g__law_same T.k__law_same passD (pa_cons (pe_ix ix_any (pv 0) (pv 2) (fun _ _ => rfl)) (pa_cons (pe_ix ix_any (pv 1) (pv 2) (fun _ _ => rfl)) (pa_nil)))))) (pss_one (ps_ret (pe_bl))) (pss_nil))))
    (pss_stop (pss_one (ps_ret (pe_bl))))))
theorem ok__law_run (T : T0 P K mg) : FR P w K mg base 1 (He.fAd K ("_law_run", none)) (sp__law_run K) := by
  obtain ⟨fd, F⟩ := T.F__law_run
  refine mk_fn F sc__law_run (fun vs H Q E h => by
    revert h; intro h; (repeat (first | (obtain ⟨rfl, _⟩ := h; exact rfl) | obtain ⟨_, h⟩ := h))) (fun _ _ _ _ _ _ us hl => match us, hl with | [_, _, _], _ => rfl) (t := t__law_run K) (fun cdv A outer s H E hr => ?_) (fun vs H Q E h => pure__law_run vs H Q E h)
  exact pss_cons (ps_set (i := 3) sc__law_run.nd rfl (Or.inl rfl) (pe_int))
    (pss_stop (pss_cons (ps_for ownD rfl (pi_rng (by rfl) T.n_range (pa_cons (pe_cb c_len T.n_len (by decide +kernel) (pa_cons (pv 0) (pa_nil))) (pa_nil))) (pg_name (i := 4) sc__law_run.nd rfl (Or.inl rfl)) (pss_one (ps_set (i := 3) sc__law_run.nd rfl (Or.inl rfl) (pe_ix ix_any (pe_ix ix_any (pe_ix ix_any (pv 0) (pv 4) (fun _ _ => rfl)) (pv 3) (fun _ _ => rfl)) (pe_ix ix_any (pv 2) (pv 4) (fun _ _ => rfl)) (fun _ _ => rfl)))))
    (pss_stop (pss_one (ps_ret (pe_ix ix_any (pv 1) (pv 3) (fun _ _ => rfl)))))))
theorem ok_law (T : T0 P K mg) {fd : FuncData} (F : FunD K "law" "law" (defArgs s_law) (defBody s_law) (defScope s_law) [] [] (He.fAd K ("law", none)) fd) : FnOk P w K mg base CX0 4 (He.fAd K ("law", none)) fd ["_law_script"] (sp_law K) := by
  have G__law_answers := ok__law_answers (P := P) (w := w) (base := base) T
  have G__law_changed := ok__law_changed (P := P) (w := w) (base := base) T
  have G__law_run := ok__law_run (P := P) (w := w) (base := base) T
  have G__law_same := ok__law_same (P := P) (w := w) (base := base) T
  have G__law_table := ok__law_table (P := P) (w := w) (base := base) T
  have G__law_twin := ok__law_twin (P := P) (w := w) (base := base) T
  have G_reduced := ok_reduced (P := P) (w := w) (base := base) T
  refine mk_law F sc_law (fun vs H Q E h => by
    revert h; intro h; (repeat (first | (obtain ⟨rfl, _⟩ := h; exact rfl) | obtain ⟨_, h⟩ := h))) (t := t_law K) (fun cdv A outer s H E hr => ?_) (fun vs H Q E h => pure_law vs H Q E0 h)
  exact pss_cons (ps_set (i := 1) sc_law.nd rfl (Or.inl rfl) (pe_lst (pa_cons (pe_int) (pa_cons (pe_int) (pa_cons (pe_int) (pa_cons (pe_int) (pa_nil)))))))
    (pss_stop (pss_cons (ps_set (i := 2) sc_law.nd rfl (Or.inl rfl) (pe_call (G__law_table) (hr.mono (by decide)) T.g__law_table T.k__law_table passL0 (pa_cons (pv 0) (pa_cons (pv 1) (pa_cons (pe_int) (pa_nil))))))
    (pss_stop (pss_cons (ps_set (i := 3) sc_law.nd rfl (Or.inl rfl) (pe_call (G__law_twin) (hr.mono (by decide)) T.g__law_twin T.k__law_twin passL0 (pa_cons (pv 0) (pa_cons (pv 1) (pa_cons (pv 2) (pa_nil))))))
    (pss_stop (pss_cons (ps_set (i := 4) sc_law.nd rfl (Or.inl rfl) (pe_call (G__law_changed) (hr.mono (by decide)) T.g__law_changed T.k__law_changed passL0 (pa_cons (pv 0) (pa_cons (pv 1) (pa_cons (pv 2) (pa_nil))))))
    (pss_stop (pss_cons (ps_set (i := 5) sc_law.nd rfl (Or.inr rfl) (pe_cb c_len T.n_len (by decide +kernel) (pa_cons (pe_ix ix_any (pv 2) (pe_int) (fun _ _ => rfl)) (pa_nil))))
    (pss_stop (pss_cons (ps_set (i := 6) sc_law.nd rfl (Or.inl rfl) (pe_call (G_reduced) (hr.mono (by decide)) T.g_reduced T.k_reduced passL0 (pa_cons (pe_ix ix_any (pv 2) (pe_int) (fun _ _ => rfl)) (pa_cons (pe_ix ix_any (pv 2) (pe_int) (fun _ _ => rfl)) (pa_nil)))))
    (pss_stop (pss_cons (ps_set (i := 7) sc_law.nd rfl (Or.inl rfl) (pe_call (G_reduced) (hr.mono (by decide)) T.g_reduced T.k_reduced passL0 (pa_cons (pe_ix ix_any (pv 3) (pe_int) (fun _ _ => rfl)) (pa_cons (pe_ix ix_any (pv 3) (pe_int) (fun _ _ => rfl)) (pa_nil)))))
    (pss_stop (pss_cons (ps_if (PW.pt (pw_or (pt_cmp (o_ne hr.units) (pe_ix ix_any (pv 7) (pe_int) (fun _ _ => rfl)) (pe_ix ix_any (pv 6) (pe_int) (fun _ _ => rfl)) (nomark _)) (pw_or1 (pt_not (pt_of (pe_call (G__law_answers) (hr.mono (by decide)) T.g__law_answers T.k__law_answers passL0 (pa_cons (pe_ix ix_any (pv 7) (pe_int) (fun _ _ => rfl)) (pa_cons (pe_ix ix_any (pv 6) (pe_int) (fun _ _ => rfl)) (pa_nil))))))))) (pss_one (ps_ret (pe_bl))) (pss_nil))
    (pss_stop (pss_cons (ps_set (i := 8) sc_law.nd rfl (Or.inl rfl) (pe_bl))
    (pss_stop (pss_cons (ps_for PassesOwn.never rfl (pi_rng (by rfl) T.n_range (pa_cons (pe_op o_shl (pe_int) (pv 5)) (pa_nil))) (pg_name (i := 9) sc_law.nd rfl (Or.inr rfl)) (pss_cons (ps_setLc (i := 10) (own := [("_law_k", 12)]) rfl sc_law.nd rfl rfl (sw_true rfl rfl rfl (by decide +kernel)) (pi_rng (by rfl) T.n_range (pa_cons (pv 5) (pa_nil))) (blkOk_by (own := [("_law_k", 12)]) (N := ["_law_script", "_law_state", "_law_table_here", "_law_twin_here", "_law_other", "_law_many", "_law_found", "_law_second", "_law_same_here", "_law_number", "_law_bits", "_law_third", "_law_k"]) (sc := defScope s_law) (by decide +kernel)) (fun _ _ _ _ _ => pg_name (i := 12) sc_law.nd rfl (Or.inl rfl)) (fun _ _ _ _ _ => pts_nil) (fun _ _ _ _ _ => pe_op o_and (pe_op o_shr (pv 9) (pe_op o_sub (pe_op o_sub (pv 5) (pe_int)) (pv 12))) (pe_int)))
    (pss_stop (pss_one (ps_if (pt_not (pt_of (pe_call (G__law_same) (hr.mono (by decide)) T.g__law_same T.k__law_same passL0 (pa_cons (pe_call (G__law_run) (hr.mono (by decide)) T.g__law_run T.k__law_run passL0 (pa_cons (pe_ix ix_any (pv 2) (pe_int) (fun _ _ => rfl)) (pa_cons (pe_ix ix_any (pv 2) (pe_int) (fun _ _ => rfl)) (pa_cons (pv 10) (pa_nil))))) (pa_cons (pe_call (G__law_run) (hr.mono (by decide)) T.g__law_run T.k__law_run passL0 (pa_cons (pe_ix ix_any (pv 4) (pe_int) (fun _ _ => rfl)) (pa_cons (pe_ix ix_any (pv 4) (pe_int) (fun _ _ => rfl)) (pa_cons (pv 10) (pa_nil))))) (pa_nil)))))) (pss_one (ps_set (i := 8) sc_law.nd rfl (Or.inl rfl) (pe_bl))) (pss_nil))))))
    (pss_stop (pss_cons (ps_set (i := 11) sc_law.nd rfl (Or.inl rfl) (pe_call (G_reduced) (hr.mono (by decide)) T.g_reduced T.k_reduced passL0 (pa_cons (pe_ix ix_any (pv 4) (pe_int) (fun _ _ => rfl)) (pa_cons (pe_ix ix_any (pv 4) (pe_int) (fun _ _ => rfl)) (pa_nil)))))
    (pss_stop (pss_one (ps_ret (pe_cmp (o_eq hr.units) (pv 8) (pe_and (pe_cmp (o_eq hr.units) (pe_ix ix_any (pv 11) (pe_int) (fun _ _ => rfl)) (pe_ix ix_any (pv 6) (pe_int) (fun _ _ => rfl)) (nomark _)) (pe_one (pe_call (G__law_answers) (hr.mono (by decide)) T.g__law_answers T.k__law_answers passL0 (pa_cons (pe_ix ix_any (pv 11) (pe_int) (fun _ _ => rfl)) (pa_cons (pe_ix ix_any (pv 6) (pe_int) (fun _ _ => rfl)) (pa_nil)))))) (nomark _)))))))))))))))))))))))))
end
theorem hfacts {w : World} {K : Frag} {h : Heap} {mg : Str → Option Value} {f : Addr} (X : K.In h) (G : h.Ns mainGlobals mg) (hla : mg ("law" : Str) = some (.ref f)) (c : SaysX hfa hfx hfn K) :
    ∃ fd : FuncData, (∀ (s : Shared) (v : Value), BindsTo s fd ⟨[v], []⟩ [("_law_script", v)]) ∧ ∀ base : Heap, K.In base → base.Ns mainGlobals mg → FnOk hP w K mg base CX0 4 f fd ["_law_script"] (sp_law K) := by
  have g__law_answers := He.glo_ok X G (c.fact 0 (f := .glo "_law_answers") rfl)
  have g__law_changed := He.glo_ok X G (c.fact 1 (f := .glo "_law_changed") rfl)
  have g__law_draw := He.glo_ok X G (c.fact 2 (f := .glo "_law_draw") rfl)
  have g__law_ids := He.glo_ok X G (c.fact 3 (f := .glo "_law_ids") rfl)
  have g__law_place := He.glo_ok X G (c.fact 4 (f := .glo "_law_place") rfl)
  have g__law_run := He.glo_ok X G (c.fact 5 (f := .glo "_law_run") rfl)
  have g__law_same := He.glo_ok X G (c.fact 6 (f := .glo "_law_same") rfl)
  have g__law_table := He.glo_ok X G (c.fact 7 (f := .glo "_law_table") rfl)
  have g__law_twin := He.glo_ok X G (c.fact 8 (f := .glo "_law_twin") rfl)
  have g_class_levels := He.glo_ok X G (c.fact 9 (f := .glo "class_levels") rfl)
  have g_first_nodes := He.glo_ok X G (c.fact 10 (f := .glo "first_nodes") rfl)
  have g_law := He.glo_ok X G (c.fact 11 (f := .glo "law") rfl)
  have g_numbered_once := He.glo_ok X G (c.fact 12 (f := .glo "numbered_once") rfl)
  have g_reduced := He.glo_ok X G (c.fact 13 (f := .glo "reduced") rfl)
  have n_abs := He.free_ok X G (c.fact 14 (f := .free "abs") rfl)
  have n_enumerate := He.free_ok X G (c.fact 15 (f := .free "enumerate") rfl)
  have n_int := He.free_ok X G (c.fact 16 (f := .free "int") rfl)
  have n_len := He.free_ok X G (c.fact 17 (f := .free "len") rfl)
  have n_list := He.free_ok X G (c.fact 18 (f := .free "list") rfl)
  have n_range := He.free_ok X G (c.fact 19 (f := .free "range") rfl)
  have n_reversed := He.free_ok X G (c.fact 20 (f := .free "reversed") rfl)
  have n_tuple := He.free_ok X G (c.fact 21 (f := .free "tuple") rfl)
  have F__law_draw := c.def_ 0 rfl
  have F__law_table := c.def_ 1 rfl
  have F__law_ids := c.def_ 2 rfl
  have F__law_place := c.def_ 3 rfl
  have F__law_twin := c.def_ 4 rfl
  have F__law_changed := c.def_ 5 rfl
  have F_numbered_once := c.def_ 6 rfl
  have F_class_levels := c.def_ 7 rfl
  have F_first_nodes := c.def_ 8 rfl
  have F_reduced := c.def_ 9 rfl
  have F__law_same := c.def_ 10 rfl
  have F__law_answers := c.def_ 11 rfl
  have F__law_run := c.def_ 12 rfl
  have F_law := c.def_ 13 rfl
  have T : T0 hP K mg := ⟨n_abs, n_enumerate, n_int, n_len, n_list, n_range, n_reversed, n_tuple, g__law_answers, g__law_changed, g__law_draw, g__law_ids, g__law_place, g__law_run, g__law_same, g__law_table, g__law_twin, g_class_levels, g_first_nodes, g_law, g_numbered_once, g_reduced, F__law_draw, (let ⟨_, F⟩ := F__law_draw; F.kp), F__law_table, (let ⟨_, F⟩ := F__law_table; F.kp), F__law_ids, (let ⟨_, F⟩ := F__law_ids; F.kp), F__law_place, (let ⟨_, F⟩ := F__law_place; F.kp), F__law_twin, (let ⟨_, F⟩ := F__law_twin; F.kp), F__law_changed, (let ⟨_, F⟩ := F__law_changed; F.kp), F_numbered_once, (let ⟨_, F⟩ := F_numbered_once; F.kp), F_class_levels, (let ⟨_, F⟩ := F_class_levels; F.kp), F_first_nodes, (let ⟨_, F⟩ := F_first_nodes; F.kp), F_reduced, (let ⟨_, F⟩ := F_reduced; F.kp), F__law_same, (let ⟨_, F⟩ := F__law_same; F.kp), F__law_answers, (let ⟨_, F⟩ := F__law_answers; F.kp), F__law_run, (let ⟨_, F⟩ := F__law_run; F.kp), F_law, (let ⟨_, F⟩ := F_law; F.kp)⟩
  obtain ⟨fd, F⟩ := F_law
  have e := hla.symm.trans g_law
  cases e
  have b := FunD.bindsA (ps := ["_law_script"]) F fun _ _ _ _ _ _ us hl => match us, hl with | [_], _ => rfl
  exact ⟨fd, fun s v => b s [v] rfl, fun base _ _ => ok_law T F⟩
end S
open PySem PySem.W PySem.Calls PyProof.Rows
theorem PySem.Challenge.cw_slicedcolumns_k50_reduced_once_holds : PySem.Challenge.rw_slicedcolumns_k50_reduced_once.Holds := by
  w_on; o_law
  refine HandSHeadRun.head_any (r := OpenLaw.row PySem.Challenge.rw_slicedcolumns_k50_reduced_once) (q := view (OpenLaw.row PySem.Challenge.rw_slicedcolumns_k50_reduced_once).prog [15]) (H := S.hhk) (ob := S.hob) (M := 16000) (loose := S.hloose) (d := HandSHeadRun.topDef (OpenLaw.row PySem.Challenge.rw_slicedcolumns_k50_reduced_once).prog 15) (kwd := []) S.hob_eq
    (by kernel_rfl) (fun s => by kernel_rfl) S.hrun (by kernel_rfl) (by kernel_rfl) (by kernel_rfl) (by rfl) (by first | assumption | decide +kernel) (by decide +kernel) ⟨rfl, rfl, rfl, rfl, rfl, by decide +kernel⟩ ?hw ?hc
  case hw => w_witness2
  case hc =>
    refine L2.walk_ofE (l := PySem.Challenge.rw_slicedcolumns_k50_reduced_once) (n := 63) (k := 4) (x := "_law_script") (CX := L2.CX0) rfl (by decide) (by kernel_rfl) ⟨rfl, by decide, by decide⟩ ?F (fun _ _ _ _ z => z)
    intro w mg fa h Y G hmg0
    obtain ⟨K, KX, c⟩ := Y
    have hmg : mg ("law" : PySem.Str) = some (.ref fa) := by
      have e : (HandSHeadRun.topDef (OpenLaw.row PySem.Challenge.rw_slicedcolumns_k50_reduced_once).prog 15).name = ("law" : PySem.Str) := by kernel_rfl
      rw [← e]
      exact hmg0
    obtain ⟨fd, hb, hF⟩ := S.hfacts (w := w) KX G hmg c
    exact ⟨K, fd, S.sp_law K, KX, hb, fun H a ns hl _ hS => ⟨a, ns, rfl, hS, fun _ => rfl⟩, hF⟩
