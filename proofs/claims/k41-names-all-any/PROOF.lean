import PyProof.Rows.All
import Wide.All
import OpenK.AllK
import Wide.FinOn
import HandS.ForMost
import HandS.ForExc
import HandS.TupAny
import HandS.IsInst
import HandS.Conv
import HandS.Defaults
import HandS.WideBits
import HandS.SortInts
import HandS.Slots
import HandS.Flow
import HandS.SlotsOwn
import HandS.Exc
import HandS.ExcOwn
import HandS.CallSlots
import HandS.ExcInit
import HandS.ExcIs
import KE.KExcIs
import KE.KExcSuper
import HandS.Head0
import HandS.Head1
import HandS.Head2
import HandS.HeadEnd
import HandS.HeadHook1
import HandS.HeadHook2
import KE.GoesEnum
import HandS.ExcField
import HandS.WideBits
import PyProof.StrReplace2
import KE.KOpsOwn
import HandS.Iter
import HandS.OwnEq
import HandS.Defaults
import HandS.MakeKwOnly
import HandS.TryOnly
import KE.SortCalls
import HandS.GenList
import HandS.Zip
import HandS.Strs
import HandS.TupSets
import PyProof.Rows.SetFrom
import PyProof.AutoSeq1
import PyProof.Rows.ChunkEnd
import HandS.IterNext
import HandS.OwnIter
import PyProof.NeKinds
import KE.SortData
import HandS.Deep
import HandS.Wide
import HandS.TryMany
import PyProof.WalksMore
import HandS.Text
import HandS.SortKw
import KE.DatumOrd
import HandS.MakeKw
import HandS.Dict
import HandS.DictComp
import HandS.More
import HandS.Small
import HandS.Star
import HandS.Conv
import KE.KDictPairs
import OpenK.KOps
import HandS.Nested
import KE.KSuper
import HandS.Style
import KE.OsArith
import KE.BitLaws
import KE.KDictDisplayH
import HandS.SetTxt0
import HandS.SetFor
import KE.KDictCopyH
import HandS.SetKeys
import HandS.TupLen
import HandS.DictTup
import HandS.Rev
import KE.GoesZip
import KE.GoesMore
import KE.KCallOwn
import PyProof.SeqIndex
import PySem.Challenge.RW_slicedcolumns_k41_names_all_any
set_option Elab.async false
set_option linter.all false
set_option maxRecDepth 100000
set_option maxHeartbeats 4000000
namespace S
open PySem PySem.Spec PyProof.Rows L2
abbrev Frag := PySem.W.Frag
end S
namespace S
open PySem PySem.Spec PyProof.Rows L2
def nmB (K : Frag) (y : Str) : Bool := match PySem.W.clsIn K (He.ga K y) with
  | some cd => decide (cd.name = y)
  | none => false
def mfB (K : Frag) (x : Str) (ups : List Str) (tys : List String) : Bool := (match PySem.W.clsIn K (He.ga K x) with
  | some cd => decide (cd.name = x) && decide (cd.mro = (x :: ups).map (fun y => Value.ref (He.ga K y)) ++ tys.map Value.type)
  | none => false) && (ups.all (nmB K) && decide (PySem.W.typeIn K (.ref (He.ga K x)) = some (.type "type")))
def sclsB (K : Frag) (C : Addr) : Bool := PySem.W.plainGet K C Str.empty && (PySem.W.isClsIn K C && (PySem.W.plainOver K C && He.eqO (PySem.W.findIn K (.ref C) "__setattr__") (some (some (.builtin "object.__setattr__")))))
def sisiB (K : Frag) (C : Addr) : Bool := He.eqO (PySem.W.findIn K (.ref C) "__class__") (some (some (.builtin "object.__class__"))) && (He.eqO (PySem.W.specialIn K (.builtin "object.__class__") "__get__") (some (some (.builtin "getset_descriptor.__get__"))) &&
  (decide (PySem.W.takesIn K (.builtin "object.__class__") = some true) && decide (PySem.W.mroIn K C (.type "object") = some true)))
def slotB (K : Frag) (C : Addr) (f : Str) (p : Addr) (i : Nat) : Bool := He.eqO (PySem.W.findIn K (.ref C) f) (some (some (.ref p))) && (He.eqO (PySem.W.specialIn K (.ref p) "__get__") (some (some (.builtin "member_descriptor.__get__"))) &&
  (decide (PySem.W.takesIn K (.ref p) = some true) && (decide (PySem.W.typeIn K (.ref p) = some (.type "member_descriptor")) && (decide (PySem.W.slotIn K p C = some i) && decide (i < 1000)))))
def slotsB (K : Frag) (C : Addr) : List Str → Nat → Bool
  | [], _ => true
  | f :: r, i => slotB K C f (He.ma K C f) i && slotsB K C r (i + 1)
def cfB (x : Str) (fs : List Str) (K : Frag) : Bool := mfB K x [] ["object"] && (sclsB K (He.ga K x) && (sisiB K (He.ga K x) && slotsB K (He.ga K x) fs 0))
structure DfX where
  ad : Frag → Addr
  name : Str
  qual : Str
  params : Arguments
  body : List Stmt
  scope : Scope
  dfl : List He.Dv := []
  kwd : List (Str × He.Dv) := []
  clo : List Str := []
def fnX (K : Frag) (a : Addr) : He.FnW := match K.lookup a with
  | some ⟨_, _, .func fd, _⟩ => some (fd.name, fd.qualname, fd.params, fd.body, fd.scope, fd.globals, fd.closure.map (fun c => (c.1, (0 : Addr))), fd.builtins)
  | _ => none
def DfX.val (d : DfX) : He.FnW := some (d.name, d.qual, d.params, .stmts d.body, d.scope, mainGlobals, d.clo.map (fun n => (n, (0 : Addr))), builtinsNs)
def DfX.dvs (K : Frag) (d : DfX) : List V := d.dfl.map (He.Dv.v K)
def DfX.kws (K : Frag) (d : DfX) : List (Str × V) := d.kwd.map fun q => (q.1, q.2.v K)
def DfX.ok (K : Frag) (d : DfX) : Bool := PySem.W.keepIn K (.ref (d.ad K)) && (match K.lookup (d.ad K) with
  | some ⟨_, _, .func fd, _⟩ => PySem.W.codeIn K fd.code d.qual && (He.dflB K fd.defaults (d.dvs K) && He.kwdB K fd.kwdefaults (d.kws K))
  | _ => false)
abbrev AlX : Type := Bool × List He.FnW
def obsK (fa : List He.Fa) (fx : List (Frag → Bool)) (fn : List DfX) (K : Frag) : AlX := ((fa.all fun f => f.ok K) && ((fx.all fun f => f K) && fn.all fun d => d.ok K), fn.map fun d => fnX K (d.ad K))
def valX (fn : List DfX) : AlX := (true, fn.map DfX.val)
def SaysX (fa : List He.Fa) (fx : List (Frag → Bool)) (fn : List DfX) (K : Frag) : Prop := obsK fa fx fn K = valX fn
end S
namespace S
open PySem PySem.Spec PyProof.Rows L2
def cellTo (K : Frag) (cc C : Addr) : Bool := match K.lookup cc with
  | some ⟨_, _, .cell (some (.ref D)), _⟩ => decide (D = C)
  | _ => false
def codeFile (P : Program) (K : Frag) (cda : Addr) : Bool := match K.lookup cda with
  | some ⟨_, _, .fields vs, _⟩ => (match (vs[2]? : Option Value) with
    | some (.str file _) => ((P.main.file : Str) == file)
    | _ => false)
  | _ => false
def cloB (P : Program) (K : Frag) (C : Addr) (code : Value) (clo : List (Str × Addr)) : Bool := match code, clo with
  | .ref cda, [(_, cc)] => cellTo K cc C && codeFile P K cda
  | _, _ => false
def fnB (P : Program) (K : Frag) (C fI : Addr) : Bool := match K.lookup fI with
  | some ⟨_, _, .func fd, _⟩ => PySem.W.codeIn K fd.code fd.qualname && (He.dflB K fd.defaults [] && cloB P K C fd.code fd.closure)
  | _ => false
end S
namespace S
open PySem PySem.Spec PyProof.Rows L2
def nsG (g : Addr → Option Obj) (ns : Addr) (x : Str) : List Addr := match g ns with
  | some ⟨_, _, .dict es _, _⟩ => (match es.toList.find? (·.key.isStr x) with
    | some e => He.refV e.val
    | none => [])
  | _ => []
def rfY (o : Obj) : List Addr := match o.data with
  | .cls cd => [cd.ns]
  | .func fd => He.refV fd.code ++ (He.refV fd.defaults ++ (He.refV fd.kwdefaults ++ fd.closure.map (·.2)))
  | .dict es _ => es.toList.flatMap fun e => He.refV e.val
  | .seq its _ => its.toList.flatMap He.refV
  | .fields vs => (match o.cls == .type "code" with
    | true => []
    | false => vs.toList.flatMap He.refV)
  | _ => []
def stepY (g : Addr → Option Obj) (as : List Addr) : List Addr := as.flatMap fun a => match g a with
  | some o => rfY o
  | none => []
def lvY (g : Addr → Option Obj) : Nat → List Addr → List Addr
  | 0, as => as
  | n + 1, as => as ++ lvY g n (stepY g as)
def asY (names : List Str) (g : Addr → Option Obj) : List Addr := mainGlobals :: cStatics :: lvY g 4 (names.flatMap (nsG g mainGlobals))
def obsYG (names : List Str) (fa : List He.Fa) (fx : List (Frag → Bool)) (fn : List DfX) (g : Addr → Option Obj) : AlX := obsK fa fx fn (He.frG g (asY names g))
def hookY (names : List Str) (fa : List He.Fa) (fx : List (Frag → Bool)) (fn : List DfX) : PySem.W.Hook where
  α := AlX
  obs := fun s => obsYG names fa fx fn s.heap.get?
  val := fun _ => valX fn
  says := fun _ h => ∃ K : Frag, K.In h ∧ SaysX fa fx fn K
  of := fun _ _ e => ⟨_, He.frG_in, e⟩
  keeps := fun _ _ _ ⟨K, hK, c⟩ k => ⟨K, PySem.W.Frag.In.keeps hK k, c⟩
theorem obsYG_eq {names : List Str} {fa : List He.Fa} {fx : List (Frag → Bool)} {fn : List DfX} {g : Addr → Option Obj} {s : Shared} (h : ∀ a, g a = s.heap.get? a) : obsYG names fa fx fn g = (hookY names fa fx fn).obs s := by
  have e : g = s.heap.get? := funext h
  rw [e] <;> rfl
theorem run_parts {σ β : Type} {o : Option σ} {l : σ → Bool} {g : σ → β} {v2 : β} {K : σ → Frag} {fa : List He.Fa} {fx : List (Frag → Bool)} {fn : List DfX} {ob : σ → AlX} (n m : Nat) (hob : ∀ s, ob s = obsK fa fx fn (K s)) (h1 : o.map (fun s => (l s, g s)) = some (true, v2))
    (h3 : o.map (fun s => fa.all fun f => f.ok (K s)) = some true) (h4 : o.map (fun s => fx.all fun f => f (K s)) = some true) (h5 : o.map (fun s => (fn.take n).all fun d => d.ok (K s)) = some true) (h6 : o.map (fun s => ((fn.drop n).take m).all fun d => d.ok (K s)) = some true)
    (h7 : o.map (fun s => ((fn.drop n).drop m).all fun d => d.ok (K s)) = some true) (h8 : o.map (fun s => fn.map fun d => fnX (K s) (d.ad (K s))) = some (fn.map DfX.val)) : o.map (fun s => (l s, g s, ob s)) = some (true, v2, valX fn) := by
  cases o with
  | none => cases h1
  | some s =>
    have e1 : (l s, g s) = (true, v2) := Option.some.inj h1
    obtain ⟨e3, e4⟩ := Prod.mk.inj e1
    have a3 : (fa.all fun f => f.ok (K s)) = true := Option.some.inj h3
    have a4 : (fx.all fun f => f (K s)) = true := Option.some.inj h4
    have a5 : ((fn.take n).all fun d => d.ok (K s)) = true := Option.some.inj h5
    have a6 : (((fn.drop n).take m).all fun d => d.ok (K s)) = true := Option.some.inj h6
    have a7 : (((fn.drop n).drop m).all fun d => d.ok (K s)) = true := Option.some.inj h7
    have a8 : (fn.map fun d => fnX (K s) (d.ad (K s))) = fn.map DfX.val := Option.some.inj h8
    have b : (fn.all fun d => d.ok (K s)) = true := by
      rw [← List.take_append_drop n fn, List.all_append, a5, ← List.take_append_drop m (fn.drop n), List.all_append, a6, a7] <;> rfl
    show some (l s, g s, ob s) = _
    rw [e3, e4, hob, obsK, a3, a4, b, a8]
    rfl
end S
namespace S
open PySem PySem.Spec PyProof.Rows L2
def dfB (x : Str) (ups fs : List Str) (K : Frag) : Bool := mfB K x ups ["object"] && ((He.Fa.cls x).ok K && (He.eqO (PySem.W.findIn K (.ref (He.ga K x)) "__class__") (some (some (.builtin "object.__class__"))) && (He.eqO (PySem.W.specialIn K (.builtin "object.__class__") "__get__") (some (some (.builtin "getset_descriptor.__get__"))) &&
  (decide (PySem.W.takesIn K (.builtin "object.__class__") = some true) && (decide (PySem.W.mroIn K (He.ga K x) (.type "object") = some true) && fs.all fun f => He.eqO (PySem.W.findIn K (.ref (He.ga K x)) f) (some none))))))
end S
namespace S
open PySem PySem.Spec PyProof.Rows L2 GenW


end S
namespace S
open PySem PySem.Spec PyProof.Rows L2
def supB (P : Program) (c up : Str) (K : Frag) : Bool := fnB P K (He.ga K c) (He.fAd K (c, some "__init__")) && (decide (PySem.W.mroIn K (He.ga K c) (.ref (He.ga K c)) = some true) && (He.eqO (PySem.W.ks_superIn K (He.ga K c) (He.ga K c) "__init__") (some (some (.ref (He.fAd K (up, some "__init__"))))) &&
    (decide (PySem.W.typeIn K (.ref (He.fAd K (up, some "__init__"))) = some (.type "function")) && (PySem.W.fnIn K (He.fAd K (up, some "__init__")) && (decide (PySem.W.nsIn K cStatics "thirdparty.any" = some none) && !(P.main.scope.names.lookup ("super" : Str)).isSome)))))
end S
namespace S
open PySem PySem.Spec PyProof.Rows L2
/-- each of cs is first in its own line, has no reflected method, and none lies above another -/
def nfB (cs : List Str) (nm : String) (K : Frag) : Bool := cs.all fun c => PySem.W.selfFirst K (He.ga K c) && (He.eqO (PySem.W.findIn K (.ref (He.ga K c)) (dunderR nm)) (some none) && cs.all fun d => decide (He.ga K c = He.ga K d) || decide (PySem.W.subIn K (.ref (He.ga K d)) (.ref (He.ga K c)) = some false))
end S
namespace S
open PySem PySem.Spec PyProof.Rows L2
def csT : List Str := ["AtMost", "Present", "HasBit", "Both", "Either", "Opposite", "Surely"]
end S


namespace S
open PySem PySem.Spec PyProof.Rows L2
def top (i : Nat) : Stmt := PySem.Challenge.pw_slicedcolumns_k41_names_all_any.main.body.getD i (.Pass ⟨0, 0, 0, 0⟩)
abbrev s__law_draw : Stmt := top 19
abbrev s__law_names : Stmt := top 22
abbrev s__law_columns : Stmt := top 24
abbrev s__law_wide : Stmt := top 20
abbrev s__law_number : Stmt := top 21
abbrev s__law_leaf : Stmt := top 25
abbrev s__law_recipe : Stmt := top 26
abbrev s_Questiondd_initdd : Stmt := inClass (top 8) 0
abbrev s_Bothdd_initdd : Stmt := inClass (top 12) 0
abbrev s_Questiondd_anddd : Stmt := inClass (top 8) 3
abbrev s_Eitherdd_initdd : Stmt := inClass (top 13) 0
abbrev s_Questiondd_ordd : Stmt := inClass (top 8) 4
abbrev s_Oppositedd_initdd : Stmt := inClass (top 14) 0
abbrev s_Questiondd_invertdd : Stmt := inClass (top 8) 5
abbrev s_Surelydd_initdd : Stmt := inClass (top 15) 0
abbrev s_Question_surely : Stmt := inClass (top 8) 2
abbrev s_Presentdd_initdd : Stmt := inClass (top 10) 0
abbrev s_HasBitdd_initdd : Stmt := inClass (top 11) 0
abbrev s_Formdd_initdd : Stmt := inClass (top 7) 1
abbrev s_AtMostdd_initdd : Stmt := inClass (top 9) 0
abbrev s__law_question : Stmt := top 27
abbrev s_AtMost_names : Stmt := inClass (top 9) 1
abbrev s_Present_names : Stmt := inClass (top 10) 1
abbrev s_HasBit_names : Stmt := inClass (top 11) 1
abbrev s_Question_names : Stmt := inClass (top 8) 1
abbrev s__law_named : Stmt := top 28
abbrev s_all_of : Stmt := top 16
abbrev s_any_of : Stmt := top 17
abbrev s__law_joined : Stmt := top 30
abbrev s__law_is_number : Stmt := top 23
abbrev s__law_is_leaf : Stmt := top 29
abbrev s_Form_value : Stmt := inClass (top 7) 10
abbrev s_AtMost_truth : Stmt := inClass (top 9) 2
abbrev s_Present_truth : Stmt := inClass (top 10) 2
abbrev s_HasBit_truth : Stmt := inClass (top 11) 2
abbrev s_Surely_truth : Stmt := inClass (top 15) 1
abbrev s_rank_of : Stmt := top 3
abbrev s_opposite_truth : Stmt := top 6
abbrev s_Opposite_truth : Stmt := inClass (top 14) 1
abbrev s_either_truths : Stmt := top 5
abbrev s_Either_truth : Stmt := inClass (top 13) 1
abbrev s_both_truths : Stmt := top 4
abbrev s_Both_truth : Stmt := inClass (top 12) 1
abbrev s__law_chain : Stmt := top 31
abbrev s_law : Stmt := top 32
def hfn : List DfX := (⟨fun K => He.fAd K ("_law_draw", none), "_law_draw", "_law_draw", defArgs s__law_draw, defBody s__law_draw, defScope s__law_draw, [], [], []⟩ : DfX) :: (⟨fun K => He.fAd K ("_law_names", none), "_law_names", "_law_names", defArgs s__law_names, defBody s__law_names, defScope s__law_names, [], [], []⟩ : DfX) :: (⟨fun K => He.fAd K ("_law_columns", none), "_law_columns", "_law_columns", defArgs s__law_columns, defBody s__law_columns, defScope s__law_columns, [], [], []⟩ : DfX) :: (⟨fun K => He.fAd K ("_law_wide", none), "_law_wide", "_law_wide", defArgs s__law_wide, defBody s__law_wide, defScope s__law_wide, [], [], []⟩ : DfX) :: (⟨fun K => He.fAd K ("_law_number", none), "_law_number", "_law_number", defArgs s__law_number, defBody s__law_number, defScope s__law_number, [], [], []⟩ : DfX) :: (⟨fun K => He.fAd K ("_law_leaf", none), "_law_leaf", "_law_leaf", defArgs s__law_leaf, defBody s__law_leaf, defScope s__law_leaf, [], [], []⟩ : DfX) :: (⟨fun K => He.fAd K ("_law_recipe", none), "_law_recipe", "_law_recipe", defArgs s__law_recipe, defBody s__law_recipe, defScope s__law_recipe, [], [], []⟩ : DfX) :: (⟨fun K => He.fAd K ("Question", some "__init__"), "__init__", "Question.__init__", defArgs s_Questiondd_initdd, defBody s_Questiondd_initdd, defScope s_Questiondd_initdd, [], [], []⟩ : DfX) :: (⟨fun K => He.fAd K ("Both", some "__init__"), "__init__", "Both.__init__", defArgs s_Bothdd_initdd, defBody s_Bothdd_initdd, defScope s_Bothdd_initdd, [], [], ["__class__"]⟩ : DfX) :: (⟨fun K => He.fAd K ("Question", some "__and__"), "__and__", "Question.__and__", defArgs s_Questiondd_anddd, defBody s_Questiondd_anddd, defScope s_Questiondd_anddd, [], [], []⟩ : DfX) :: (⟨fun K => He.fAd K ("Either", some "__init__"), "__init__", "Either.__init__", defArgs s_Eitherdd_initdd, defBody s_Eitherdd_initdd, defScope s_Eitherdd_initdd, [], [], ["__class__"]⟩ : DfX) :: (⟨fun K => He.fAd K ("Question", some "__or__"), "__or__", "Question.__or__", defArgs s_Questiondd_ordd, defBody s_Questiondd_ordd, defScope s_Questiondd_ordd, [], [], []⟩ : DfX) :: (⟨fun K => He.fAd K ("Opposite", some "__init__"), "__init__", "Opposite.__init__", defArgs s_Oppositedd_initdd, defBody s_Oppositedd_initdd, defScope s_Oppositedd_initdd, [], [], ["__class__"]⟩ : DfX) :: (⟨fun K => He.fAd K ("Question", some "__invert__"), "__invert__", "Question.__invert__", defArgs s_Questiondd_invertdd, defBody s_Questiondd_invertdd, defScope s_Questiondd_invertdd, [], [], []⟩ : DfX) :: (⟨fun K => He.fAd K ("Surely", some "__init__"), "__init__", "Surely.__init__", defArgs s_Surelydd_initdd, defBody s_Surelydd_initdd, defScope s_Surelydd_initdd, [], [], ["__class__"]⟩ : DfX) :: (⟨fun K => He.fAd K ("Question", some "surely"), "surely", "Question.surely", defArgs s_Question_surely, defBody s_Question_surely, defScope s_Question_surely, [], [], []⟩ : DfX) :: (⟨fun K => He.fAd K ("Present", some "__init__"), "__init__", "Present.__init__", defArgs s_Presentdd_initdd, defBody s_Presentdd_initdd, defScope s_Presentdd_initdd, [], [], ["__class__"]⟩ : DfX) :: (⟨fun K => He.fAd K ("HasBit", some "__init__"), "__init__", "HasBit.__init__", defArgs s_HasBitdd_initdd, defBody s_HasBitdd_initdd, defScope s_HasBitdd_initdd, [], [], ["__class__"]⟩ : DfX) :: (⟨fun K => He.fAd K ("Form", some "__init__"), "__init__", "Form.__init__", defArgs s_Formdd_initdd, defBody s_Formdd_initdd, defScope s_Formdd_initdd, [.int 0], [], []⟩ : DfX) :: (⟨fun K => He.fAd K ("AtMost", some "__init__"), "__init__", "AtMost.__init__", defArgs s_AtMostdd_initdd, defBody s_AtMostdd_initdd, defScope s_AtMostdd_initdd, [], [], ["__class__"]⟩ : DfX) :: (⟨fun K => He.fAd K ("_law_question", none), "_law_question", "_law_question", defArgs s__law_question, defBody s__law_question, defScope s__law_question, [], [], []⟩ : DfX) :: (⟨fun K => He.fAd K ("AtMost", some "names"), "names", "AtMost.names", defArgs s_AtMost_names, defBody s_AtMost_names, defScope s_AtMost_names, [], [], []⟩ : DfX) :: (⟨fun K => He.fAd K ("Present", some "names"), "names", "Present.names", defArgs s_Present_names, defBody s_Present_names, defScope s_Present_names, [], [], []⟩ : DfX) :: (⟨fun K => He.fAd K ("HasBit", some "names"), "names", "HasBit.names", defArgs s_HasBit_names, defBody s_HasBit_names, defScope s_HasBit_names, [], [], []⟩ : DfX) :: (⟨fun K => He.fAd K ("Question", some "names"), "names", "Question.names", defArgs s_Question_names, defBody s_Question_names, defScope s_Question_names, [], [], []⟩ : DfX) :: (⟨fun K => He.fAd K ("_law_named", none), "_law_named", "_law_named", defArgs s__law_named, defBody s__law_named, defScope s__law_named, [], [], []⟩ : DfX) :: (⟨fun K => He.fAd K ("all_of", none), "all_of", "all_of", defArgs s_all_of, defBody s_all_of, defScope s_all_of, [], [], []⟩ : DfX) :: (⟨fun K => He.fAd K ("any_of", none), "any_of", "any_of", defArgs s_any_of, defBody s_any_of, defScope s_any_of, [], [], []⟩ : DfX) :: (⟨fun K => He.fAd K ("_law_joined", none), "_law_joined", "_law_joined", defArgs s__law_joined, defBody s__law_joined, defScope s__law_joined, [], [], []⟩ : DfX) :: (⟨fun K => He.fAd K ("_law_is_number", none), "_law_is_number", "_law_is_number", defArgs s__law_is_number, defBody s__law_is_number, defScope s__law_is_number, [], [], []⟩ : DfX) :: (⟨fun K => He.fAd K ("_law_is_leaf", none), "_law_is_leaf", "_law_is_leaf", defArgs s__law_is_leaf, defBody s__law_is_leaf, defScope s__law_is_leaf, [], [], []⟩ : DfX) :: (⟨fun K => He.fAd K ("Form", some "value"), "value", "Form.value", defArgs s_Form_value, defBody s_Form_value, defScope s_Form_value, [], [], []⟩ : DfX) :: (⟨fun K => He.fAd K ("AtMost", some "truth"), "truth", "AtMost.truth", defArgs s_AtMost_truth, defBody s_AtMost_truth, defScope s_AtMost_truth, [], [], []⟩ : DfX) :: (⟨fun K => He.fAd K ("Present", some "truth"), "truth", "Present.truth", defArgs s_Present_truth, defBody s_Present_truth, defScope s_Present_truth, [], [], []⟩ : DfX) :: (⟨fun K => He.fAd K ("HasBit", some "truth"), "truth", "HasBit.truth", defArgs s_HasBit_truth, defBody s_HasBit_truth, defScope s_HasBit_truth, [], [], []⟩ : DfX) :: (⟨fun K => He.fAd K ("Surely", some "truth"), "truth", "Surely.truth", defArgs s_Surely_truth, defBody s_Surely_truth, defScope s_Surely_truth, [], [], []⟩ : DfX) :: (⟨fun K => He.fAd K ("rank_of", none), "rank_of", "rank_of", defArgs s_rank_of, defBody s_rank_of, defScope s_rank_of, [], [], []⟩ : DfX) :: (⟨fun K => He.fAd K ("opposite_truth", none), "opposite_truth", "opposite_truth", defArgs s_opposite_truth, defBody s_opposite_truth, defScope s_opposite_truth, [], [], []⟩ : DfX) :: (⟨fun K => He.fAd K ("Opposite", some "truth"), "truth", "Opposite.truth", defArgs s_Opposite_truth, defBody s_Opposite_truth, defScope s_Opposite_truth, [], [], []⟩ : DfX) :: (⟨fun K => He.fAd K ("either_truths", none), "either_truths", "either_truths", defArgs s_either_truths, defBody s_either_truths, defScope s_either_truths, [], [], []⟩ : DfX) :: (⟨fun K => He.fAd K ("Either", some "truth"), "truth", "Either.truth", defArgs s_Either_truth, defBody s_Either_truth, defScope s_Either_truth, [], [], []⟩ : DfX) :: (⟨fun K => He.fAd K ("both_truths", none), "both_truths", "both_truths", defArgs s_both_truths, defBody s_both_truths, defScope s_both_truths, [], [], []⟩ : DfX) :: (⟨fun K => He.fAd K ("Both", some "truth"), "truth", "Both.truth", defArgs s_Both_truth, defBody s_Both_truth, defScope s_Both_truth, [], [], []⟩ : DfX) :: (⟨fun K => He.fAd K ("_law_chain", none), "_law_chain", "_law_chain", defArgs s__law_chain, defBody s__law_chain, defScope s__law_chain, [], [], []⟩ : DfX) :: (⟨fun K => He.fAd K ("law", none), "law", "law", defArgs s_law, defBody s_law, defScope s_law, [], [], []⟩ : DfX) :: []
abbrev hP : Program := PySem.Challenge.rw_slicedcolumns_k41_names_all_any.prog
def hfx : List (Frag → Bool) := (cfB "Form" ["offset", "terms"]) :: (dfB "AtMost" ["Question"] ["parts", "terms", "bound"]) :: (dfB "Both" ["Question"] ["parts", "one", "other"]) :: (dfB "Either" ["Question"] ["parts", "one", "other"]) :: (dfB "HasBit" ["Question"] ["parts", "name", "place"]) :: (dfB "Opposite" ["Question"] ["parts", "part"]) :: (dfB "Present" ["Question"] ["parts", "name"]) :: (dfB "Question" [] ["parts"]) :: (dfB "Surely" ["Question"] ["parts", "part"]) :: (nfB csT "and") :: (nfB csT "or") :: (fun K => decide (He.fAd K ("AtMost", some "__and__") = He.fAd K ("Question", some "__and__"))) :: (fun K => decide (He.fAd K ("AtMost", some "__invert__") = He.fAd K ("Question", some "__invert__"))) :: (fun K => decide (He.fAd K ("AtMost", some "__or__") = He.fAd K ("Question", some "__or__"))) :: (fun K => decide (He.fAd K ("AtMost", some "surely") = He.fAd K ("Question", some "surely"))) :: (fun K => decide (He.fAd K ("Both", some "__and__") = He.fAd K ("Question", some "__and__"))) :: (fun K => decide (He.fAd K ("Both", some "__invert__") = He.fAd K ("Question", some "__invert__"))) :: (fun K => decide (He.fAd K ("Both", some "__or__") = He.fAd K ("Question", some "__or__"))) :: (fun K => decide (He.fAd K ("Both", some "names") = He.fAd K ("Question", some "names"))) :: (fun K => decide (He.fAd K ("Both", some "surely") = He.fAd K ("Question", some "surely"))) :: (fun K => decide (He.fAd K ("Either", some "__and__") = He.fAd K ("Question", some "__and__"))) :: (fun K => decide (He.fAd K ("Either", some "__invert__") = He.fAd K ("Question", some "__invert__"))) :: (fun K => decide (He.fAd K ("Either", some "__or__") = He.fAd K ("Question", some "__or__"))) :: (fun K => decide (He.fAd K ("Either", some "names") = He.fAd K ("Question", some "names"))) :: (fun K => decide (He.fAd K ("Either", some "surely") = He.fAd K ("Question", some "surely"))) :: (fun K => decide (He.fAd K ("HasBit", some "__and__") = He.fAd K ("Question", some "__and__"))) :: (fun K => decide (He.fAd K ("HasBit", some "__invert__") = He.fAd K ("Question", some "__invert__"))) :: (fun K => decide (He.fAd K ("HasBit", some "__or__") = He.fAd K ("Question", some "__or__"))) :: (fun K => decide (He.fAd K ("HasBit", some "surely") = He.fAd K ("Question", some "surely"))) :: (fun K => decide (He.fAd K ("Opposite", some "__and__") = He.fAd K ("Question", some "__and__"))) :: (fun K => decide (He.fAd K ("Opposite", some "__invert__") = He.fAd K ("Question", some "__invert__"))) :: (fun K => decide (He.fAd K ("Opposite", some "__or__") = He.fAd K ("Question", some "__or__"))) :: (fun K => decide (He.fAd K ("Opposite", some "names") = He.fAd K ("Question", some "names"))) :: (fun K => decide (He.fAd K ("Opposite", some "surely") = He.fAd K ("Question", some "surely"))) :: (fun K => decide (He.fAd K ("Present", some "__and__") = He.fAd K ("Question", some "__and__"))) :: (fun K => decide (He.fAd K ("Present", some "__invert__") = He.fAd K ("Question", some "__invert__"))) :: (fun K => decide (He.fAd K ("Present", some "__or__") = He.fAd K ("Question", some "__or__"))) :: (fun K => decide (He.fAd K ("Present", some "surely") = He.fAd K ("Question", some "surely"))) :: (fun K => decide (He.fAd K ("Surely", some "__and__") = He.fAd K ("Question", some "__and__"))) :: (fun K => decide (He.fAd K ("Surely", some "__invert__") = He.fAd K ("Question", some "__invert__"))) :: (fun K => decide (He.fAd K ("Surely", some "__or__") = He.fAd K ("Question", some "__or__"))) :: (fun K => decide (He.fAd K ("Surely", some "names") = He.fAd K ("Question", some "names"))) :: (fun K => decide (He.fAd K ("Surely", some "surely") = He.fAd K ("Question", some "surely"))) :: (fun K => He.tupB K "RANKED" [.bl false, .non, .bl true]) :: (supB hP "AtMost" "Question") :: (supB hP "Both" "Question") :: (supB hP "Either" "Question") :: (supB hP "HasBit" "Question") :: (supB hP "Opposite" "Question") :: (supB hP "Present" "Question") :: (supB hP "Surely" "Question") :: []
def hfa : List He.Fa := (.glo "AtMost") :: (.glo "Both") :: (.glo "Either") :: (.glo "Form") :: (.glo "HasBit") :: (.glo "Opposite") :: (.glo "Present") :: (.glo "Question") :: (.glo "RANKED") :: (.glo "Surely") :: (.glo "_law_chain") :: (.glo "_law_columns") :: (.glo "_law_draw") :: (.glo "_law_is_leaf") :: (.glo "_law_is_number") :: (.glo "_law_joined") :: (.glo "_law_leaf") :: (.glo "_law_named") :: (.glo "_law_names") :: (.glo "_law_number") :: (.glo "_law_question") :: (.glo "_law_recipe") :: (.glo "_law_wide") :: (.glo "all_of") :: (.glo "any_of") :: (.glo "both_truths") :: (.glo "either_truths") :: (.glo "law") :: (.glo "opposite_truth") :: (.glo "rank_of") :: (.free "abs") :: (.free "bool") :: (.free "dict") :: (.free "int") :: (.free "isinstance") :: (.free "len") :: (.free "list") :: (.free "max") :: (.free "min") :: (.free "range") :: (.free "set") :: (.free "sorted") :: (.free "sum") :: (.free "super") :: (.free "tuple") :: (.mkr "AtMost") :: (.mkr "Both") :: (.mkr "Either") :: (.mkr "Form") :: (.mkr "HasBit") :: (.mkr "Opposite") :: (.mkr "Present") :: (.mkr "Surely") :: (.meth "AtMost" "__and__") :: (.meth "AtMost" "__invert__") :: (.meth "AtMost" "__or__") :: (.meth "AtMost" "names") :: (.meth "AtMost" "surely") :: (.meth "AtMost" "truth") :: (.meth "Both" "__and__") :: (.meth "Both" "__invert__") :: (.meth "Both" "__or__") :: (.meth "Both" "names") :: (.meth "Both" "surely") :: (.meth "Both" "truth") :: (.meth "Either" "__and__") :: (.meth "Either" "__invert__") :: (.meth "Either" "__or__") :: (.meth "Either" "names") :: (.meth "Either" "surely") :: (.meth "Either" "truth") :: (.meth "Form" "value") :: (.meth "HasBit" "__and__") :: (.meth "HasBit" "__invert__") :: (.meth "HasBit" "__or__") :: (.meth "HasBit" "names") :: (.meth "HasBit" "surely") :: (.meth "HasBit" "truth") :: (.meth "Opposite" "__and__") :: (.meth "Opposite" "__invert__") :: (.meth "Opposite" "__or__") :: (.meth "Opposite" "names") :: (.meth "Opposite" "surely") :: (.meth "Opposite" "truth") :: (.meth "Present" "__and__") :: (.meth "Present" "__invert__") :: (.meth "Present" "__or__") :: (.meth "Present" "names") :: (.meth "Present" "surely") :: (.meth "Present" "truth") :: (.meth "Surely" "__and__") :: (.meth "Surely" "__invert__") :: (.meth "Surely" "__or__") :: (.meth "Surely" "names") :: (.meth "Surely" "surely") :: (.meth "Surely" "truth") :: []
abbrev hR : PySem.W.OpenRow := PySem.W.OpenLaw.row PySem.Challenge.rw_slicedcolumns_k41_names_all_any
def hloose : List Str := "_wall" :: "RANKED" :: "rank_of" :: "both_truths" :: "either_truths" :: "opposite_truth" :: "Form" :: "Question" :: "AtMost" :: "Present" :: "HasBit" :: "Both" :: "Either" :: "Opposite" :: "Surely" :: "all_of" :: "any_of" :: "_law_draw" :: "_law_wide" :: "_law_number" :: "_law_names" :: "_law_is_number" :: "_law_columns" :: "_law_leaf" :: "_law_recipe" :: "_law_question" :: "_law_named" :: "_law_is_leaf" :: "_law_joined" :: "_law_chain" :: []
def hnm : List Str := "RANKED" :: "rank_of" :: "both_truths" :: "either_truths" :: "opposite_truth" :: "Form" :: "Question" :: "AtMost" :: "Present" :: "HasBit" :: "Both" :: "Either" :: "Opposite" :: "Surely" :: "all_of" :: "any_of" :: "_law_draw" :: "_law_wide" :: "_law_number" :: "_law_names" :: "_law_is_number" :: "_law_columns" :: "_law_leaf" :: "_law_recipe" :: "_law_question" :: "_law_named" :: "_law_is_leaf" :: "_law_joined" :: "_law_chain" :: "law" :: []
abbrev hhk : PySem.W.Hook := hookY hnm hfa hfx hfn
def hob (s : PySem.W.SharedT) : AlX := obsYG hnm hfa hfx hfn (HandSHeadRun.getT s)
theorem hob_eq (s : PySem.W.SharedT) : hob s = hhk.obs s.abs := obsYG_eq (HandSHeadRun.getT_eq s)
section
open HandSHeadRun PySem.W
def hK (s : PySem.W.SharedT) : Frag := He.frG (HandSHeadRun.getT s) (asY hnm (HandSHeadRun.getT s))
theorem hq1 (w : World) (os : OsState) : (HandSHeadRun.endF (HandSHeadRun.stepQ (HandSHeadRun.denQ HandSHeadRun.tabQ) hR.prog w) 16000 hR.prog w os).map (fun s => (HandSHeadRun.looksF hR.prog (boot_heap w.params) s.abs, HandSHeadRun.seenQ (PySem.W.view hR.prog [32]) hloose (importedModules hR.prog.main.body) (fun s => xlAt (PySem.W.view hR.prog [32]) [] s && recOk hR.toRowW.records s) s.abs)) = some (true, openGood (PySem.W.view hR.prog [32]) hloose) := by kernel_rfl
theorem hq2 (w : World) (os : OsState) : (HandSHeadRun.endF (HandSHeadRun.stepQ (HandSHeadRun.denQ HandSHeadRun.tabQ) hR.prog w) 16000 hR.prog w os).map (fun s => hfa.all fun f => f.ok (hK s)) = some (true) := by kernel_rfl
theorem hq3 (w : World) (os : OsState) : (HandSHeadRun.endF (HandSHeadRun.stepQ (HandSHeadRun.denQ HandSHeadRun.tabQ) hR.prog w) 16000 hR.prog w os).map (fun s => hfx.all fun f => f (hK s)) = some (true) := by kernel_rfl
theorem hq4 (w : World) (os : OsState) : (HandSHeadRun.endF (HandSHeadRun.stepQ (HandSHeadRun.denQ HandSHeadRun.tabQ) hR.prog w) 16000 hR.prog w os).map (fun s => (hfn.take 15).all fun d => d.ok (hK s)) = some (true) := by kernel_rfl
theorem hq5 (w : World) (os : OsState) : (HandSHeadRun.endF (HandSHeadRun.stepQ (HandSHeadRun.denQ HandSHeadRun.tabQ) hR.prog w) 16000 hR.prog w os).map (fun s => ((hfn.drop 15).take 15).all fun d => d.ok (hK s)) = some (true) := by kernel_rfl
theorem hq6 (w : World) (os : OsState) : (HandSHeadRun.endF (HandSHeadRun.stepQ (HandSHeadRun.denQ HandSHeadRun.tabQ) hR.prog w) 16000 hR.prog w os).map (fun s => ((hfn.drop 15).drop 15).all fun d => d.ok (hK s)) = some (true) := by kernel_rfl
theorem hq7 (w : World) (os : OsState) : (HandSHeadRun.endF (HandSHeadRun.stepQ (HandSHeadRun.denQ HandSHeadRun.tabQ) hR.prog w) 16000 hR.prog w os).map (fun s => hfn.map fun d => fnX (hK s) (d.ad (hK s))) = some (hfn.map DfX.val) := by kernel_rfl
end
theorem hrun (w : World) : HandSHeadRun.RunEq hR (PySem.W.view hR.prog [32]) hhk hob 16000 hloose w := by
  intro os
  exact run_parts (K := hK) 15 15 (fun _ => rfl) (hq1 w os) (hq2 w os) (hq3 w os) (hq4 w os) (hq5 w os) (hq6 w os) (hq7 w os)
end S
namespace S
open PySem PySem.Spec PyProof.Rows L2
/-! ## readings that reduce -/
theorem PE.of {X : Cx} {e : Expr} {t t' : TE} (h : PE X e t) (i : ∀ σ H Q, t' σ H Q → t σ H Q) : PE X e t' := ⟨fun pins s σ H Q I q => h.run pins s σ H Q I (i σ H Q q)⟩
theorem PT.of {X : Cx} {e : Expr} {t t' : TT} (h : PT X e t) (i : ∀ σ H Q, t' σ H Q → t σ H Q) : PT X e t' := ⟨fun pins s σ H Q I q => h.run pins s σ H Q I (i σ H Q q)⟩
theorem PS.of {X : Cx} {e : Stmt} {t t' : TS} (h : PS X e t) (i : ∀ D σ H, t' D σ H → t D σ H) : PS X e t' := ⟨fun pins s σ H Q I q => h.run pins s σ H Q I (i Q σ H q)⟩
theorem OpR.of {X : Cx} {f : Value → Value → Sem Value} {r r' : R2} (h : OpR X f r) (i : ∀ x y H Q, r' x y H Q → r x y H Q) : OpR X f r' := fun pins s σ H x y v u Q I rx ry q => h pins s σ H x y v u Q I rx ry (i x y H Q q)
theorem IxR.of {X : Cx} {r r' : R2} (h : IxR X r) (i : ∀ x y H Q, r' x y H Q → r x y H Q) : IxR X r' := fun e1 e2 pins s σ H x y v u Q I rx ry q hs => h e1 e2 pins s σ H x y v u Q I rx ry (i x y H Q q) hs
theorem CallR.of {X : Cx} {f : Value} {r r' : List V → Hp → VK → Prop} (h : CallR X f r) (i : ∀ xs H Q, r' xs H Q → r xs H Q) : CallR X f r' := fun pins s σ H xs us Q I rx q => h pins s σ H xs us Q I rx (i xs H Q q)
def nth : L2.St → Nat → Option V
  | [], _ => none
  | x :: _, 0 => x
  | _ :: r, n + 1 => nth r n
theorem nth_ok : ∀ {σ : L2.St} {i : Nat} {v : V}, nth σ i = some v → σ[i]? = some (some v)
  | [], _, _, h => nomatch h
  | x :: _, 0, _, h => by
    have e : x = some _ := h
    rw [e]; rfl
  | _ :: r, n + 1, _, h => by
    have := nth_ok (σ := r) (i := n) h
    simpa using this
def SqA (K : Frag) (H : Hp) (p : Addr) (xs : List V) : Prop := SqL K H p xs ∨ SqT K H p xs
/-! ### points at which a reading waits for an answer -/
/-- a condition, then on -/
structure Need (c q : Prop) : Prop where
  c : c
  q : q
/-- the sequence at p is read -/
structure Rd (K : Frag) (H : Hp) (p : Addr) (k : List V → Prop) : Prop where
  ex : ∃ xs, SqA K H p xs ∧ k xs
theorem Rd.l {K : Frag} {H : Hp} {p : Addr} {k : List V → Prop} {xs : List V} (h : H p = some (.lst xs)) (q : k xs) : Rd K H p k := ⟨xs, .inl (SqL.of h), q⟩
theorem Rd.t {K : Frag} {H : Hp} {p : Addr} {k : List V → Prop} {xs : List V} (h : H p = some (.tup xs)) (q : k xs) : Rd K H p k := ⟨xs, .inr (SqT.of h), q⟩
theorem Rd.sl {K : Frag} {H : Hp} {p : Addr} {k : List V → Prop} {xs : List V} (h : SqL K H p xs) (q : k xs) : Rd K H p k := ⟨xs, .inl h, q⟩
theorem Rd.st {K : Frag} {H : Hp} {p : Addr} {k : List V → Prop} {xs : List V} (h : SqT K H p xs) (q : k xs) : Rd K H p k := ⟨xs, .inr h, q⟩
theorem Rd.sa {K : Frag} {H : Hp} {p : Addr} {k : List V → Prop} {xs : List V} (h : SqA K H p xs) (q : k xs) : Rd K H p k := ⟨xs, h, q⟩
/-- the item at i -/
structure At (xs : List V) (i : Int) (k : V → Prop) : Prop where
  ex : ∃ v, atI xs i = some v ∧ k v
theorem At.of {xs : List V} {i : Int} {k : V → Prop} {v : V} (h : atI xs i = some v) (q : k v) : At xs i k := ⟨v, h, q⟩
/-- the list at p is to be changed -/
structure Ls (H : Hp) (p : Addr) (k : List V → Prop) : Prop where
  ex : ∃ xs, H p = some (.lst xs) ∧ k xs
theorem Ls.of {H : Hp} {p : Addr} {k : List V → Prop} {xs : List V} (h : H p = some (.lst xs)) (q : k xs) : Ls H p k := ⟨xs, h, q⟩
/-- a new list; a new tuple, or one that stands -/
structure NewL (H : Hp) (ys : List V) (Q : V → Hp → Prop) : Prop where
  go : ∀ p, H p = none → Q (.ref p) (upd H p (.lst ys))
structure NewT (K : Frag) (H : Hp) (ys : List V) (Q : V → Hp → Prop) : Prop where
  go : ∀ p H', Same H H' → SqT K H' p ys → Q (.ref p) H'
def onSome (o : Option V) (k : V → Prop) : Prop := match o with
  | some v => k v
  | none => False
def dVar (i : Nat) : TE := fun σ H Q => onSome (nth σ i) fun v => Q v H
theorem pv {X : Cx} (i : Nat) {x : Str} {pos : Pos} (hN : X.N[i]? = some x := by rfl) (hv : Vis X.env.scope x := by first | exact Or.inl rfl | exact Or.inr (Or.inl rfl) | exact Or.inr (Or.inr rfl)) (hd : (x == ("__debug__" : Str)) = false := by decide)
    (hcd : (x == ("__classdict__" : Str)) = false := by decide) : PE X (.Name x pos) (dVar i) := PE.of (pe_var hN hv hd hcd) fun σ H Q q => by
  unfold dVar onSome at q
  cases e : nth σ i with
  | none => rw [e] at q; exact q.elim
  | some v => rw [e] at q; exact ⟨v, nth_ok e, q⟩
/-- two ways by a bool -/
def bIf (b : Bool) (A B : Prop) : Prop := match b with
  | true => A
  | false => B
theorem ifb {b : Bool} {A B : Prop} (h1 : b = true → A) (h2 : b = false → B) : bIf b A B := by
  cases b with
  | true => exact h1 rfl
  | false => exact h2 rfl
theorem ifd {c : Prop} [Decidable c] {A B : Prop} (h1 : c → A) (h2 : ¬ c → B) : bIf (decide c) A B := ifb (fun h => h1 (of_decide_eq_true h)) fun h => h2 (of_decide_eq_false h)
theorem ifn {c : Prop} [Decidable c] {A B : Prop} (h1 : ¬ c → A) (h2 : c → B) : bIf (!decide c) A B := ifb (fun h => h1 (by simpa using h)) fun h => h2 (by simpa using h)
theorem ifnf {c : Prop} [Decidable c] {A B : Prop} (hc : c) (h1 : B) : bIf (!decide c) A B := by rw [decide_eq_true hc]; exact h1
/-! ### tests -/
def dTru (K : Frag) (x : V) (H : Hp) (Q : Bool → Prop) : Prop := match x with
  | .bl b => Q b
  | .non => Q false
  | .int i => Q (decide (i ≠ 0))
  | .str z => Need (z.length ≤ sizeLine) (Q (decide (z.length ≠ 0)))
  | .ref p => Rd K H p fun xs => Q (decide (xs ≠ []))
  | _ => False
def dTest (K : Frag) (ta : TE) : TT := fun σ H Q => ta σ H fun x H1 => dTru K x H1 fun b => Q b H1
theorem pt_of {X : Cx} {a : Expr} {ta : TE} (ha : PE X a ta) (he : ∀ whole, isTrue a X.env whole = (do let v ← whole; standAt a.pos; holding [v] (truthy v)) := by intro _; rfl) : PT X a (dTest X.K ta) := by
  refine ⟨fun pins s σ H Q I h => ?_⟩
  refine isTrue_plain (thn (ha.run pins s σ H _ I h) fun v s1 ⟨x, H1, I1, r1, q1⟩ => ?_) (he _)
  cases x with
  | bl b =>
    exact tru_ok pins s1 σ H1 (.bl b) v Q I1 r1 ⟨b, rfl, q1⟩
  | non =>
    exact tru_ok pins s1 σ H1 .non v Q I1 r1 ⟨false, rfl, q1⟩
  | int i =>
    refine tru_ok pins s1 σ H1 (.int i) v Q I1 r1 ⟨_, rfl, ?_⟩
    have e : (i != 0) = decide (i ≠ 0) := by by_cases h : i = 0 <;> simp [h]
    rw [e]; exact q1
  | str z =>
    refine tru_ok pins s1 σ H1 (.str z) v Q I1 r1 ⟨_, ⟨q1.c, rfl⟩, ?_⟩
    have e : ((z.length : Int) != 0) = decide (z.length ≠ 0) := by by_cases h : z.length = 0 <;> simp [h]
    rw [e]; exact q1.q
  | ref p =>
    obtain ⟨⟨xs, hx, q⟩⟩ := q1
    have e : (!xs.isEmpty) = decide (xs ≠ []) := by cases xs <;> simp
    rcases hx with hx | hx
    · refine tru_ok pins s1 σ H1 (.ref p) v Q I1 r1 ⟨_, .inl ⟨xs, hx, rfl⟩, ?_⟩
      rw [e]; exact q
    · refine tru_ok pins s1 σ H1 (.ref p) v Q I1 r1 ⟨_, .inr (.inl ⟨xs, hx, rfl⟩), ?_⟩
      rw [e]; exact q
  | _ => exact q1.elim
def dAnd (t u : TT) : TT := fun σ H Q => t σ H fun c H1 => bIf c (u σ H1 Q) (Q false H1)
def dOr (t u : TT) : TT := fun σ H Q => t σ H fun c H1 => bIf c (Q true H1) (u σ H1 Q)
def dNot (t : TT) : TT := fun σ H Q => t σ H fun c H1 => Q (!c) H1
def dIfS (c : TT) (t u : TS) : TS := fun D σ H => c σ H fun b H1 => bIf b (t D σ H1) (u D σ H1)

/-! ### operators by the values -/
def int2 (k : Int → Int → Prop) (x y : V) : Prop := match x, y with
  | .int i, .int j => k i j
  | _, _ => False
/-- two lists, two tuples one behind the other -/
structure Cat (K : Frag) (H : Hp) (a b : Addr) (Q : V → Hp → Prop) : Prop where
  ex : (∃ xs zs, H a = some (.lst xs) ∧ H b = some (.lst zs) ∧ xs.length + zs.length ≤ sizeLine ∧ ∀ p, H p = none → Q (.ref p) (upd H p (.lst (xs ++ zs)))) ∨
     (∃ xs ys, SqT K H a xs ∧ SqT K H b ys ∧ xs.length + ys.length ≤ sizeLine ∧ ∀ p H', Same H H' → SqT K H' p (xs ++ ys) → Q (.ref p) H')
theorem Cat.l {K : Frag} {H : Hp} {a b : Addr} {Q : V → Hp → Prop} {xs zs : List V} (h : H a = some (.lst xs)) (h2 : H b = some (.lst zs)) (hz : xs.length + zs.length ≤ sizeLine) (q : ∀ p, H p = none → Q (.ref p) (upd H p (.lst (xs ++ zs)))) : Cat K H a b Q := ⟨.inl ⟨xs, zs, h, h2, hz, q⟩⟩
theorem Cat.t {K : Frag} {H : Hp} {a b : Addr} {Q : V → Hp → Prop} {xs ys : List V} (h : SqT K H a xs) (h2 : SqT K H b ys) (hz : xs.length + ys.length ≤ sizeLine) (q : ∀ p H', Same H H' → SqT K H' p (xs ++ ys) → Q (.ref p) H') : Cat K H a b Q := ⟨.inr ⟨xs, ys, h, h2, hz, q⟩⟩
def oAdd (K : Frag) : R2 := fun x y H Q => match x, y with
  | .int i, .int j => Q (.int (i + j)) H
  | .str a, .str b => Need (a.length + b.length ≤ sizeLine) (Q (.str (a ++ b)) H)
  | .ref a, .ref b => Cat K H a b Q
  | _, _ => False
theorem same_new {H : Hp} {p : Addr} {o : HO} (h : H p = none) : Same H (upd H p o) := fun b u e => by rw [upd_ne (ne_of_none e h)]; exact e
theorem o_add {X : Cx} : OpR X (binaryOp .Add) (oAdd X.K) := OpR.of (op_add.or (op_add_str.or (op_cat.or op_catA))) fun x y H Q q => by
  cases x <;> cases y <;> try exact q.elim
  · exact .inl ⟨_, _, rfl, rfl, q⟩
  · exact .inr (.inl ⟨_, _, rfl, rfl, q.c, q.q⟩)
  · rcases q.ex with ⟨xs, zs, h1, h2, h3, q⟩ | ⟨xs, ys, h1, h2, h3, q⟩
    · exact .inr (.inr (.inl ⟨_, _, xs, zs, rfl, rfl, h1, h2, h3, q⟩))
    · refine .inr (.inr (.inr ⟨_, _, xs, ys, rfl, rfl, h1, h2, h3, fun e => ?_, fun _ e => ?_, fun _ _ p hp => ?_⟩))
      · subst e; exact q _ _ (Same.refl _) h2
      · subst e; exact q _ _ (Same.refl _) (by rw [List.append_nil]; exact h1)
      · exact q _ _ (same_new hp) (SqT.of upd_same)
def oI (C : Int → Int → Prop) (g : Int → Int → Int) : R2 := fun x y H Q => int2 (fun i j => Need (C i j) (Q (.int (g i j)) H)) x y
def oI0 (g : Int → Int → Int) : R2 := fun x y H Q => int2 (fun i j => Q (.int (g i j)) H) x y
theorem oI_of {X : Cx} {f : Value → Value → Sem Value} {C : Int → Int → Prop} {g : Int → Int → Int} (h : OpR X f (rI C fun i j => .int (g i j))) : OpR X f (oI C g) := OpR.of h fun x y H Q q => by
  cases x <;> cases y <;> try exact q.elim
  exact ⟨_, _, rfl, rfl, q.c, q.q⟩
theorem oI0_of {X : Cx} {f : Value → Value → Sem Value} {g : Int → Int → Int} (h : OpR X f (rI0 fun i j => .int (g i j))) : OpR X f (oI0 g) := OpR.of h fun x y H Q q => by
  cases x <;> cases y <;> try exact q.elim
  exact ⟨_, _, rfl, rfl, q⟩
def oSub : R2 := oI0 fun i j => i - j
theorem o_sub {X : Cx} : OpR X (binaryOp .Sub) oSub := oI0_of op_sub
def oFdiv : R2 := oI CDiv fun i j => i / j
theorem o_fdiv {X : Cx} : OpR X (binaryOp .FloorDiv) oFdiv := oI_of op_fdiv
def oMod : R2 := oI (fun _ j => 0 < j) fun i j => i % j
theorem o_mod {X : Cx} : OpR X (binaryOp .Mod) oMod := oI_of op_mod
def oPow : R2 := oI CPow fun i j => i ^ j.toNat
theorem o_pow {X : Cx} : OpR X (binaryOp .Pow) oPow := oI_of op_pow
def oAnd : R2 := oI0 fun i j => Builtin.bitAnd i j
theorem o_and {X : Cx} : OpR X (binaryOp .BitAnd) oAnd := oI0_of op_and
def oShl : R2 := oI CPow fun i j => i * 2 ^ j.toNat
theorem o_shl {X : Cx} : OpR X (binaryOp .LShift) oShl := oI_of op_shl
def oShr : R2 := oI (fun _ j => 0 ≤ j) fun i j => i / 2 ^ j.toNat
theorem o_shr {X : Cx} : OpR X (binaryOp .RShift) oShr := oI_of op_shr
def uNeg : V → Hp → VK → Prop := fun x H Q => match x with
  | .int i => Q (.int (-i)) H
  | _ => False
theorem u_neg {X : Cx} : UnR X (unaryOp .USub) uNeg := fun pins s σ H x v Q I rx q => by
  cases x <;> try exact q.elim
  exact un_neg pins s σ H _ v Q I rx ⟨_, rfl, q⟩
def oC (g : Int → Int → Bool) : R2 := fun x y H Q => int2 (fun i j => Q (.bl (g i j)) H) x y
theorem oC_of {X : Cx} {f : Value → Value → Sem Value} {g : Int → Int → Bool} (h : OpR X f (rI0 fun i j => .bl (g i j))) : OpR X f (oC g) := OpR.of h fun x y H Q q => by
  cases x <;> cases y <;> try exact q.elim
  exact ⟨_, _, rfl, rfl, q⟩
def oLt : R2 := oC fun i j => decide (i < j)
def oLe : R2 := oC fun i j => decide (i ≤ j)
def oGt : R2 := oC fun i j => decide (j < i)
def oGe : R2 := oC fun i j => decide (j ≤ i)
theorem o_lt {X : Cx} : OpR X (compareOp .Lt) oLt := oC_of op_lt
theorem o_le {X : Cx} : OpR X (compareOp .LtE) oLe := oC_of op_le
theorem o_gt {X : Cx} : OpR X (compareOp .Gt) oGt := oC_of op_gt
theorem o_ge {X : Cx} : OpR X (compareOp .GtE) oGe := oC_of op_ge
def oIsN : R2 := fun x y H Q => y = .non ∧ Q (.bl (match x with | .non => true | _ => false)) H
def oNotN : R2 := fun x y H Q => y = .non ∧ Q (.bl (match x with | .non => false | _ => true)) H
theorem o_isN {X : Cx} : OpR X (compareOp .Is) oIsN := OpR.of op_isN fun x y H Q q => ⟨q.1, by cases x <;> exact q.2⟩
theorem o_notN {X : Cx} : OpR X (compareOp .IsNot) oNotN := OpR.of op_notN fun x y H Q q => ⟨q.1, by cases x <;> exact q.2⟩
/-- two data compared -/
structure EqD (K : Frag) (H : Hp) (x y : V) (k : Bool → Prop) : Prop where
  ex : ∃ d e, Dp K H x d ∧ Dp K H y e ∧ SeqAt.shaped d = true ∧ SeqAt.shaped e = true ∧ k (PyData.eqv d e)
/-- == of scalars and of data -/
def oEq (K : Frag) : R2 := fun x y H Q => match x, y with
  | .int i, .int j => Q (.bl (decide (i = j))) H
  | .str i, .str j => Q (.bl (decide (i = j))) H
  | .bl i, .bl j => Q (.bl (decide (i = j))) H
  | .non, .non => Q (.bl true) H
  | .non, .int _ => Q (.bl false) H
  | .int _, .non => Q (.bl false) H
  | .non, .bl _ => Q (.bl false) H
  | .bl _, .non => Q (.bl false) H
  | .non, .str _ => Q (.bl false) H
  | .str _, .non => Q (.bl false) H
  | .int _, .str _ => Q (.bl false) H
  | .str _, .int _ => Q (.bl false) H
  | x, y => EqD K H x y fun b => Q (.bl b) H
def oNe (K : Frag) : R2 := fun x y H Q => oEq K x y H fun v H' => match v with
  | .bl b => Q (.bl (!b)) H'
  | _ => False
theorem o_eq {X : Cx} (hu : X.A.units + 64 < cLine) : OpR X (compareOp .Eq) (oEq X.K) := OpR.of (op_eq.or (op_eqD hu)) fun x y H Q q => by
  cases x <;> cases y <;> first
    | exact .inr q.ex
    | (refine .inl ⟨rfl, ?_⟩; refine Eq.mp (congrArg (fun b => Q (V.bl b) H) ?_) q; simp)
theorem o_ne {X : Cx} (hu : X.A.units + 64 < cLine) : OpR X (compareOp .NotEq) (oNe X.K) := OpR.of (op_ne.or (op_neD hu)) fun x y H Q q => by
  cases x <;> cases y <;> first
    | exact .inr q.ex
    | (refine .inl ⟨rfl, ?_⟩; refine Eq.mp (congrArg (fun b => Q (V.bl b) H) ?_) q; simp)
/-! ### comparisons as tests, chains -/
def isB (Q : Bool → Hp → Prop) : VK := fun z H => match z with
  | .bl k => Q k H
  | _ => False
theorem isB_ex {Q : Bool → Hp → Prop} {z : V} {H : Hp} (h : isB Q z H) : ∃ k, z = .bl k ∧ Q k H := by
  cases z <;> try exact h.elim
  exact ⟨_, rfl, h⟩
def dCmpT (r : R2) (ta tb : TE) : TT := fun σ H Q => ta σ H fun x H1 => tb σ H1 fun y H2 => r x y H2 (isB Q)
theorem pt_cmp {X : Cx} {op : CmpOp} {a b : Expr} {ta tb : TE} {pos : Pos} {r : R2} (ho : OpR X (compareOp op) r) (ha : PE X a ta) (hb : PE X b tb) (hm : behindInMarks op b = false) : PT X (.Compare a [op] [b] pos) (dCmpT r ta tb) := by
  refine ⟨fun pins s σ H Q I h => ?_⟩
  refine wpAny_isTrue_Compare1 (thn (ha.run pins s σ H _ I h) fun v s1 ⟨x, H1, I1, r1, q1⟩ => thn (hb.run pins s1 σ H1 _ I1 q1) fun u s2 ⟨y, H2, I2, r2, q2⟩ =>
    thn (ho pins s2 σ H2 x y v u _ I2 r1 r2 q2) fun c s3 ⟨z, H3, I3, r3, q3⟩ => ?_) hm
  obtain ⟨k, e, q3⟩ := isB_ex q3
  subst e
  cases r3
  exact wpAny_truthy_bool ⟨H3, I3, q3⟩
theorem pe_cmp {X : Cx} {op : CmpOp} {a b : Expr} {ta tb : TE} {pos : Pos} {r : R2} (ho : OpR X (compareOp op) r) (ha : PE X a ta) (hb : PE X b tb) (hm : behindInMarks op b = false) : PE X (.Compare a [op] [b] pos) (tOp r ta tb) := pe_cmpR ho ha hb hm
theorem pw_and {X : Cx} {a b : Expr} {rest : List Expr} {tA tB' : TT} {pos : Pos} (ha : PT X a tA) (hb : PW X (.BoolOp .And (b :: rest) pos) tB') : PW X (.BoolOp .And (a :: b :: rest) pos) (dAnd tA tB') := by
  refine ⟨fun wh pins s σ H Q I h => ?_⟩
  refine isTrue_and (thn (ha.run pins s σ H _ I h) fun c s1 ⟨H1, I1, q1⟩ => ?_)
  cases c with
  | true => exact hb.run wh pins s1 σ H1 Q I1 q1
  | false => exact ⟨H1, I1, q1⟩
theorem pw_or {X : Cx} {a b : Expr} {rest : List Expr} {tA tB' : TT} {pos : Pos} (ha : PT X a tA) (hb : PW X (.BoolOp .Or (b :: rest) pos) tB') : PW X (.BoolOp .Or (a :: b :: rest) pos) (dOr tA tB') := by
  refine ⟨fun wh pins s σ H Q I h => ?_⟩
  refine isTrue_or (thn (ha.run pins s σ H _ I h) fun c s1 ⟨H1, I1, q1⟩ => ?_)
  cases c with
  | true => exact ⟨H1, I1, q1⟩
  | false => exact hb.run wh pins s1 σ H1 Q I1 q1
theorem pt_not {X : Cx} {a : Expr} {tA : TT} {pos : Pos} (ha : PT X a tA) : PT X (.UnaryOp .Not a pos) (dNot tA) := L2.pt_not ha
theorem ps_if {X : Cx} {c : Expr} {a b : List Stmt} {tc : TT} {t u : TS} {pos : Pos} (hc : PT X c tc) (ha : PSs X a t) (hb : PSs X b u) : PS X (.If c a b pos) (dIfS tc t u) := by
  refine ⟨fun pins s σ H D I h => ?_⟩
  refine wpAny_If (thn (hc.run pins s σ H _ I h) fun d s1 ⟨H1, I1, q1⟩ => ?_)
  cases d with
  | true => exact ha.run pins s1 σ H1 D I1 q1
  | false => exact hb.run pins s1 σ H1 D I1 q1
/-- and, or as values: all but the last True or False -/
def dAndV (ta tb : TE) : TE := fun σ H Q => ta σ H (isB fun c H1 => bIf c (tb σ H1 Q) (Q (.bl false) H1))
def dNotV (ta : TE) : TE := fun σ H Q => ta σ H (isB fun c H1 => Q (.bl (!c)) H1)
theorem pe_and {X : Cx} {a b : Expr} {rest : List Expr} {ta tb : TE} {pos : Pos} (ha : PE X a ta) (hb : PE X (.BoolOp .And (b :: rest) pos) tb) : PE X (.BoolOp .And (a :: b :: rest) pos) (dAndV ta tb) := by
  refine ⟨fun pins s σ H Q I h => ?_⟩
  refine BoolOp_and (thn (ha.run pins s σ H _ I h) fun v s1 ⟨x, H1, I1, r1, q1⟩ => ?_)
  obtain ⟨c, e, q⟩ := isB_ex q1
  subst e
  cases r1
  refine wpAny_truthy_bool ?_
  cases c with
  | true => exact hb.run pins s1 σ H1 Q I1 q
  | false => exact ⟨.bl false, H1, I1, rfl, q⟩
theorem pe_not {X : Cx} {a : Expr} {ta : TE} {pos : Pos} (ha : PE X a ta) : PE X (.UnaryOp .Not a pos) (dNotV ta) := by
  refine ⟨fun pins s σ H Q I h => ?_⟩
  refine UnaryOp_ (thn (ha.run pins s σ H _ I h) fun v s1 ⟨x, H1, I1, r1, q1⟩ => ?_)
  obtain ⟨c, e, q⟩ := isB_ex q1
  subst e
  cases r1
  exact not_of (wpAny_truthy_bool ⟨.bl (!c), H1, I1, rfl, q⟩)
/-! ### subscripts, slices -/
/-- the sign at i -/
structure AtS (z : Str) (i : Int) (k : Nat → Prop) : Prop where
  ex : ∃ c, atI z.cps.toList i = some c ∧ k c
def oIx (K : Frag) : R2 := fun x y H Q => match x, y with
  | .ref p, .int i => Rd K H p fun xs => At xs i fun v => Q v H
  | .str z, .int i => Need (z.length ≤ sizeLine) (AtS z i fun c => Q (.str ⟨#[c]⟩) H)
  | _, _ => False
theorem ix_any {X : Cx} : IxR X (oIx X.K) := IxR.of ix_seq fun x y H Q q => by
  cases x <;> cases y <;> try exact q.elim
  · obtain ⟨hz, ⟨c, e, q⟩⟩ := q
    exact .inr (.inr ⟨_, _, c, rfl, rfl, hz, e, q⟩)
  · obtain ⟨⟨xs, hs, ⟨v, e, q⟩⟩⟩ := q
    rcases hs with hs | hs
    · exact .inl ⟨_, xs, _, v, rfl, rfl, hs, e, q⟩
    · exact .inr (.inl ⟨_, xs, _, v, rfl, rfl, hs, e, q⟩)
def dPart (t : TE) : TO := fun σ H Q => t σ H fun x H1 => match x with
  | .int i => Q (some i) H1
  | _ => False
theorem po_some {X : Cx} {e : Expr} {te : TE} (h : PE X e te) : PO X (some e) (dPart te) := by
  refine ⟨fun pins s σ H Q I q => ?_⟩
  rw [evalPart_some]
  refine thn (h.run pins s σ H _ I q) fun u s1 ⟨x, H1, I1, r1, q1⟩ => ?_
  cases x <;> try exact q1.elim
  obtain ⟨t, rfl⟩ := r1
  exact ⟨_, H1, I1, .int _ t, q1⟩
/-- a slice of the list, of the tuple at p -/
structure Cut (K : Frag) (H : Hp) (p : Addr) (lo hi : Option Int) (Q : V → Hp → Prop) : Prop where
  ex : (∃ xs, SqL K H p xs ∧ ∀ q, H q = none → Q (.ref q) (upd H q (.lst (cutV xs lo hi)))) ∨ (∃ xs, SqT K H p xs ∧ ∀ q H', Same H H' → SqT K H' q (cutV xs lo hi) → Q (.ref q) H')
theorem Cut.l {K : Frag} {H : Hp} {p : Addr} {lo hi : Option Int} {Q : V → Hp → Prop} {xs : List V} (h : SqL K H p xs) (q : ∀ q, H q = none → Q (.ref q) (upd H q (.lst (cutV xs lo hi)))) : Cut K H p lo hi Q := ⟨.inl ⟨xs, h, q⟩⟩
theorem Cut.t {K : Frag} {H : Hp} {p : Addr} {lo hi : Option Int} {Q : V → Hp → Prop} {xs : List V} (h : SqT K H p xs) (q : ∀ q H', Same H H' → SqT K H' q (cutV xs lo hi) → Q (.ref q) H') : Cut K H p lo hi Q := ⟨.inr ⟨xs, h, q⟩⟩
def oSl (K : Frag) : V → Option Int → Option Int → Hp → VK → Prop := fun x lo hi H Q => match x with
  | .ref p => Cut K H p lo hi Q
  | _ => False
theorem SlR.of {X : Cx} {r r' : V → Option Int → Option Int → Hp → VK → Prop} (h : SlR X r) (i : ∀ x l u H Q, r' x l u H Q → r x l u H Q) : SlR X r' := fun pins s σ H x v vl vu lo hi sl Q I rx hs pl pu q => h pins s σ H x v vl vu lo hi sl Q I rx hs pl pu (i x lo hi H Q q)
theorem cut_whole {xs : List V} {lo hi : Option Int} (h : HT.sIx xs.length 0 lo = 0 ∧ HT.sIx xs.length xs.length hi = xs.length) : cutV xs lo hi = xs := by
  unfold cutV
  rw [h.1, h.2]
  simp
theorem sl_any {X : Cx} : SlR X (oSl X.K) := SlR.of (sl_list.or sl_tupA) fun x lo hi H Q q => by
  cases x <;> try exact q.elim
  rcases q.ex with ⟨xs, h, q⟩ | ⟨xs, h, q⟩
  · exact .inl ⟨_, xs, rfl, h, q⟩
  · refine .inr ⟨_, xs, rfl, h, fun w => ?_, fun _ p hp => q _ _ (same_new hp) (SqT.of upd_same)⟩
    exact q _ _ (Same.refl _) (by rw [cut_whole w]; exact h)
/-! ### displays -/
def dLst (t : TA) : TE := fun σ H Q => t σ H fun xs H1 => Need (xs.length ≤ sizeLine) (NewL H1 xs Q)
def dTup (K : Frag) (t : TA) : TE := fun σ H Q => t σ H fun xs H1 => Need (xs.length ≤ sizeLine) (NewT K H1 xs Q)
theorem pe_tup {X : Cx} {es : List Expr} {t : TA} {x1} {pos : Pos} (h : PA X es t) : PE X (.Tuple es x1 pos) (dTup X.K t) := by
  refine ⟨fun pins s σ H Q I hq => ?_⟩
  refine wpAny_Tuple_spliced (thn (h.run pos pins s σ H _ I hq) fun us s1 ⟨xs, H1, I1, r, ⟨z, ⟨q⟩⟩⟩ => ⟨by rw [← r.length]; exact z, ?_⟩)
  have hf : H1 s1.heap.objs.size = none := I1.hok.fresh (Nat.le_refl _)
  refine ⟨.ref s1.heap.objs.size, upd H1 s1.heap.objs.size (.tup xs), I1.laid (t' := s1.toks) (fun b u e => Heap.get?_push_of_some _ e) (Nat.le_refl _) ?_, rfl, q _ _ (same_new hf) (SqT.of upd_same)⟩
  exact ⟨z, us, r, ⟨_, Heap.get?_push_size _ rfl, rfl, _, rfl⟩⟩
theorem pe_lst {X : Cx} {es : List Expr} {t : TA} {pos : Pos} (h : PA X es t) : PE X (.List es pos) (dLst t) := by
  refine ⟨fun pins s σ H Q I hq => ?_⟩
  refine wpAny_List_spliced (thn (h.run pos pins s σ H _ I hq) fun us s1 ⟨xs, H1, I1, r, ⟨z, ⟨q⟩⟩⟩ => ⟨by rw [← r.length]; exact z, ?_⟩)
  have hf : H1 s1.heap.objs.size = none := I1.hok.fresh (Nat.le_refl _)
  refine ⟨.ref s1.heap.objs.size, upd H1 s1.heap.objs.size (.lst xs), I1.laid (t' := s1.toks) (fun b u e => Heap.get?_push_of_some _ e) (Nat.le_refl _) ?_, rfl, q _ hf⟩
  exact ⟨z, us, 0, r, Heap.get?_push_size _ rfl⟩
/-! ### builtin calls -/
def cLen (K : Frag) : List V → Hp → VK → Prop := fun xs H Q => match xs with
  | [.str z] => Need (z.length ≤ sizeLine) (Q (.int z.length) H)
  | [.ref p] => Rd K H p fun ys => Q (.int ys.length) H
  | _ => False
theorem c_len {X : Cx} : CallR X (.builtin "len") (cLen X.K) := CallR.of (call_len_seq.or call_len_str) fun xs H Q q => by
  match xs, q with
  | [.str z], q => exact .inr ⟨z, rfl, q.c, q.q⟩
  | [.ref p], ⟨⟨ys, h, q⟩⟩ => exact .inl ⟨p, ys, rfl, h, q⟩
def cList (K : Frag) : List V → Hp → VK → Prop := fun xs H Q => match xs with
  | [.ref p] => Rd K H p fun ys => NewL H ys Q
  | _ => False
theorem c_list {X : Cx} : CallR X (.type "list") (cList X.K) := CallR.of call_list_of fun xs H Q q => by
  match xs, q with
  | [.ref p], ⟨⟨ys, h, ⟨q⟩⟩⟩ => exact ⟨p, ys, rfl, h, q⟩
def b2i (b : Bool) : Int := match b with
  | true => 1
  | false => 0
def cInt : List V → Hp → VK → Prop := fun xs H Q => match xs with
  | [.int i] => Q (.int i) H
  | [.bl b] => Q (.int (b2i b)) H
  | _ => False
theorem c_int {X : Cx} : CallR X (.type "int") cInt := CallR.of call_int1 fun xs H Q q => by
  match xs, q with
  | [.int i], q => exact .inl ⟨_, rfl, q⟩
  | [.bl b], q =>
    refine .inr ⟨_, rfl, ?_⟩
    cases b <;> exact q
def cAbs : List V → Hp → VK → Prop := fun xs H Q => match xs with
  | [.int i] => Q (.int (i.natAbs : Int)) H
  | _ => False
theorem c_abs {X : Cx} : CallR X (.builtin "abs") cAbs := CallR.of call_abs fun xs H Q q => by
  match xs, q with
  | [.int i], q =>
    refine ⟨_, rfl, ?_⟩
    have e : (if i < 0 then -i else i) = (i.natAbs : Int) := by split <;> omega
    rw [e]; exact q
def cMax2 : List V → Hp → VK → Prop := fun xs H Q => match xs with
  | [.int i, .int j] => Q (.int (max i j)) H
  | _ => False
theorem c_max2 {X : Cx} (hc : X.calm = true) : CallR X (.builtin "max") cMax2 := CallR.of (call_max2 hc) fun xs H Q q => by
  match xs, q with
  | [.int i, .int j], q =>
    refine ⟨_, _, rfl, ?_⟩
    have e : (if j > i then j else i) = max i j := by split <;> omega
    rw [e]; exact q
def cMin2 : List V → Hp → VK → Prop := fun xs H Q => match xs with
  | [.int i, .int j] => Q (.int (min i j)) H
  | _ => False
theorem c_min2 {X : Cx} (hc : X.calm = true) : CallR X (.builtin "min") cMin2 := CallR.of (call_min2 hc) fun xs H Q q => by
  match xs, q with
  | [.int i, .int j], q =>
    refine ⟨_, _, rfl, ?_⟩
    have e : (if j < i then j else i) = min i j := by split <;> omega
    rw [e]; exact q
/-- isinstance(x, T), one class -/
structure Isi (K : Frag) (H : Hp) (x : V) (u : Value) (k : Bool → Prop) : Prop where
  ex : (∃ t b, TyX K H x t ∧ PySem.W.kitOne K t u = some b ∧ k b) ∨ (∃ a C dx vs b, x = .ref a ∧ SlX.Slt H a C dx vs ∧ SlX.SCls K C ∧ SlX.SIsi K C ∧ PySem.W.kitOne K (.ref C) u = some b ∧ k b)
theorem Isi.of {K : Frag} {H : Hp} {x : V} {u t : Value} {b : Bool} {k : Bool → Prop} (h : TyX K H x t) (e : PySem.W.kitOne K t u = some b) (q : k b) : Isi K H x u k := ⟨.inl ⟨t, b, h, e, q⟩⟩
def cIsi (K : Frag) : List V → Hp → VK → Prop := fun xs H Q => match xs with
  | [x, .ty n] => Isi K H x (.type n) fun b => Q (.bl b) H
  | [x, .ref C] => Isi K H x (.ref C) fun b => Q (.bl b) H
  | _ => False
theorem c_isi {X : Cx} : CallR X (.builtin "isinstance") (cIsi X.K) := by
  intro pins s σ H xs us Q I r q
  match xs, q with
  | [x, .ty n], ⟨.inl ⟨t, b, h1, h2, q⟩⟩ => exact call_isi pins s σ H _ us Q I r ⟨x, _, t, _, b, rfl, .ty n, h1, h2, q⟩
  | [x, .ref C], ⟨.inl ⟨t, b, h1, h2, q⟩⟩ => exact call_isi pins s σ H _ us Q I r ⟨x, _, t, _, b, rfl, .own C, h1, h2, q⟩
  | [x, .ty n], ⟨.inr ⟨a, C, dx, vs, b, e, h1, h2, h3, h4, q⟩⟩ =>
    subst e
    exact SlX.call_isiSl (.type n) pins s σ H _ us Q I r ⟨a, C, dx, vs, _, b, rfl, rfl, fun w z => z, h1, h2, h3, h4, q⟩
  | [x, .ref D], ⟨.inr ⟨a, C, dx, vs, b, e, h1, h2, h3, h4, q⟩⟩ =>
    subst e
    exact SlX.call_isiSl (.ref D) pins s σ H _ us Q I r ⟨a, C, dx, vs, _, b, rfl, rfl, fun w z => z, h1, h2, h3, h4, q⟩
/-! ### methods of lists -/
/-- a list stands at p -/
structure IsL (K : Frag) (H : Hp) (p : Addr) (q : Prop) : Prop where
  ex : ∃ xs, SqL K H p xs
  q : q
theorem IsL.of {K : Frag} {H : Hp} {p : Addr} {q : Prop} {xs : List V} (h : H p = some (.lst xs)) (q1 : q) : IsL K H p q := ⟨⟨xs, SqL.of h⟩, q1⟩
def dML (K : Frag) (r : V → List V → Hp → VK → Prop) (to : TE) (t : TA) : TE := fun σ H Q => to σ H fun x H1 => match x with
  | .ref l => IsL K H1 l (t σ H1 fun vs H2 => r (.ref l) vs H2 Q)
  | _ => False
theorem pe_ml {X : Cx} {o e : Expr} {es : List Expr} {to : TE} {t : TA} {name : Str} {apos cpos : Pos} {id : String} {r : V → List V → Hp → VK → Prop} (slot : Slot "list" name id) (hty : typeOf (.builtin id) = pure (.type "method_descriptor")) (hm : MtR X id r) (ho : PE X o to) (ha : PA X (e :: es) t)
    (hbase : attributeBase o name X.env (eval o X.env) = eval o X.env := by rfl)
    (hfew : ((backTo cpos (starEach (e :: es) X.env)).all (fun x => !x.1) && (backToKw cpos (keywordEach [] X.env)).all (fun x => x.1.isSome)
      && decide ((e :: es).length + ([] : List Keyword).length + (if ([] : List Keyword).isEmpty then 0 else 1) < 30)) = true := by rfl)
    (hline : (apos.endLine == cpos.line) = true := by rfl) (hs : starEach (e :: es) X.env = (false, eval e X.env) :: starEach es X.env := by rfl) (hplain : (backTo cpos (starEach es X.env)).any (·.1) = false := by rfl) :
    PE X (.Call (.Attribute o name apos) (e :: es) [] cpos) (dML X.K r to t) := by
  refine ⟨fun pins s σ H Q I h => ?_⟩
  refine wpAny_Call_method_late hbase hfew hline rfl (thn (ho.run pins s σ H _ I h) fun v s1 ⟨x, H1, I1, r1, q1⟩ => ?_)
  cases x <;> try exact q1.elim
  obtain ⟨hx, q1⟩ := q1
  obtain ⟨h1, h2⟩ := tyV_is (T := "list") I1 r1 (.inl ⟨rfl, hx⟩)
  refine ⟨"list", id, PySem.F.plainAttrs_list, slot, hty, h1, h2, ?_⟩
  have hA := ha.run cpos pins s1 σ H1 _ I1 q1
  rw [hs] at hA ⊢
  refine Calls.callWith_builtin (by show (false || (backTo cpos (starEach es X.env)).any (·.1)) = false; rw [hplain] <;> rfl) (Calls.evalArgs_plain ?_)
  exact thn hA fun us s2 ⟨vs, H2, I2, r2, q2⟩ => hm pins s2 σ H2 _ vs _ us Q I2 r1 r2 q2
theorem pe_ml0 {X : Cx} {o : Expr} {to : TE} {name : Str} {apos cpos : Pos} {id : String} {r : V → List V → Hp → VK → Prop} (slot : Slot "list" name id) (hty : typeOf (.builtin id) = pure (.type "method_descriptor")) (hm : MtR X id r) (ho : PE X o to)
    (hbase : attributeBase o name X.env (eval o X.env) = eval o X.env := by rfl) (hline : (apos.endLine == cpos.line) = true := by rfl) : PE X (.Call (.Attribute o name apos) [] [] cpos) (dML X.K r to tNil) := by
  refine ⟨fun pins s σ H Q I h => ?_⟩
  refine wpAny_Call_method0_late hbase hline (thn (ho.run pins s σ H _ I h) fun v s1 ⟨x, H1, I1, r1, q1⟩ => ?_)
  cases x <;> try exact q1.elim
  obtain ⟨hx, q1⟩ := q1
  obtain ⟨h1, h2⟩ := tyV_is (T := "list") I1 r1 (.inl ⟨rfl, hx⟩)
  exact ⟨"list", id, PySem.F.plainAttrs_list, slot, hty, h1, h2, Calls.callWith_builtin rfl (PySem.evalArgs_none (hm pins s1 σ H1 _ [] _ [] Q I1 r1 .nil q1))⟩
theorem MtR.of {X : Cx} {id : String} {r r' : V → List V → Hp → VK → Prop} (h : MtR X id r) (i : ∀ x xs H Q, r' x xs H Q → r x xs H Q) : MtR X id r' := fun pins s σ H x xs v us Q I rx rs q => h pins s σ H x xs v us Q I rx rs (i x xs H Q q)
abbrev M2 := V → List V → Hp → VK → Prop
/-- the list at x changed -/
def mL (f : List V → List V → Hp → (V → List V → Prop) → Prop) : M2 := fun x vs H Q => match x with
  | .ref l => Ls H l fun xs => f xs vs H fun z ys => Q z (upd H l (.lst ys))
  | _ => False
def mApp : M2 := mL fun xs vs _ k => match vs with
  | [y] => Need (xs.length < sizeLine) (k .non (xs ++ [y]))
  | _ => False
theorem m_app {X : Cx} : MtR X "list.append" mApp := MtR.of mt_append fun x vs H Q q => by
  cases x <;> try exact q.elim
  match vs, q with
  | [y], ⟨⟨xs, h, ⟨hz, q⟩⟩⟩ => exact ⟨_, xs, y, rfl, rfl, h, hz, q⟩
theorem at_last {xs : List V} {y : V} (h : atI xs (-1) = some y) : xs[xs.length - 1]? = some y := by
  unfold atI ixN at h
  rw [if_neg (by decide)] at h
  by_cases hn : -(xs.length : Int) ≤ -1
  · rw [if_pos hn, Option.bind_some] at h
    have e : (-1 + (xs.length : Int)).toNat = xs.length - 1 := by omega
    rw [e] at h
    exact h
  · rw [if_neg hn] at h
    cases h
def mPop : M2 := mL fun xs vs _ k => match vs with
  | [] => At xs (-1) fun y => k y xs.dropLast
  | _ => False
theorem m_pop {X : Cx} : MtR X "list.pop" mPop := MtR.of mt_pop fun x vs H Q q => by
  cases x <;> try exact q.elim
  match vs, q with
  | [], ⟨⟨xs, h, ⟨y, hy, q⟩⟩⟩ => exact ⟨_, xs, y, rfl, rfl, h, at_last hy, q⟩
def mExt : M2 := mL fun xs vs H k => match vs with
  | [.ref b] => Ls H b fun zs => Need (xs.length + zs.length ≤ sizeLine) (k .non (xs ++ zs))
  | _ => False
theorem m_ext {X : Cx} : MtR X "list.extend" mExt := MtR.of mt_extend fun x vs H Q q => by
  cases x <;> try exact q.elim
  match vs, q with
  | [.ref b], ⟨⟨xs, h, ⟨⟨zs, h2, ⟨hz, q⟩⟩⟩⟩⟩ => exact ⟨_, b, xs, zs, rfl, rfl, h, h2, hz, q⟩
/-! ### stores -/
/-- the place i in n -/
structure Pl (n : Nat) (i : Int) (k : Nat → Prop) : Prop where
  ex : ∃ j, ixN n i = some j ∧ k j
theorem Pl.of {n : Nat} {i : Int} {k : Nat → Prop} {j : Nat} (h : ixN n i = some j) (q : k j) : Pl n i k := ⟨j, h, q⟩
def oSet : V → V → V → Hp → (Hp → Prop) → Prop := fun o i v H Q => match o, i with
  | .ref p, .int k => Ls H p fun xs => Pl xs.length k fun j => Q (upd H p (.lst (xs.set j v)))
  | _, _ => False
theorem s_list {X : Cx} : PSet X oSet := fun pins s σ H o i v uo ui uv Q I ro ri rv q => by
  cases o <;> cases i <;> try exact q.elim
  obtain ⟨⟨xs, h, ⟨j, e, q⟩⟩⟩ := q
  exact set_list pins s σ H _ _ v uo ui uv Q I ro ri rv ⟨_, xs, _, j, rfl, rfl, h, e, q⟩
/-! ### loops over a list or a tuple -/
/-- the list or the tuple at a is walked -/
structure Walk (K : Frag) (H : Hp) (a : Addr) (R : It → Hp → Prop) : Prop where
  ex : ((∃ xs, SqL K H a xs) ∧ R (Itl K a) H) ∨ ((∃ xs, SqT K H a xs) ∧ R (Itt K a) H)
def iSm (K : Frag) (x : V) (H : Hp) (R : It → Hp → Prop) : Prop := match x with
  | .ref a => Walk K H a R
  | _ => False
def iSeq (K : Frag) (tl : TE) : TI := fun σ H R => tl σ H fun x H1 => iSm K x H1 R
theorem pi_seq {X : Cx} {tg l : Expr} {tl : TE} (hl : PE X l tl) : PI X tg l (iSeq X.K tl) := by
  refine ⟨fun pins s σ H R I h => ?_⟩
  refine thn (hl.run pins s σ H _ I h) fun v s1 ⟨x, H1, I1, r1, q1⟩ => ?_
  cases x <;> try exact q1.elim
  cases r1
  rcases q1.ex with ⟨⟨xs, hq⟩, q⟩ | ⟨⟨xs, hq⟩, q⟩
  · obtain ⟨its, rv, p, hz⟩ := I1.list hq
    refine wpAny_pyIter_list p.isList ?_
    refine ⟨s1.heap.objs.size, [s1.heap.objs.size], _, _, H1, rfl, I1.kept (t' := s1.toks) fun b o e => Heap.get?_push_of_some _ e, turn_list _ _, ⟨_, Heap.get?_push_size _ rfl, rfl, rfl⟩, fun b hb => ?_, q⟩
    have e : b = s1.heap.objs.size := by simpa using hb
    subst e
    exact I1.fpOk (Nat.le_refl _) (I1.hok.fresh (Nat.le_refl _))
  · obtain ⟨its, rv, p, hz⟩ := I1.tuple hq
    refine wpAny_pyIter_tuple (show s1.heap.IsTuple _ its.toArray from p) ?_
    refine ⟨s1.heap.objs.size, [s1.heap.objs.size], _, _, H1, rfl, I1.kept (t' := s1.toks) fun b o e => Heap.get?_push_of_some _ e, turn_tuple _ _, ⟨_, Heap.get?_push_size _ rfl, rfl, rfl⟩, fun b hb => ?_, q⟩
    have e : b = s1.heap.objs.size := by simpa using hb
    subst e
    exact I1.fpOk (Nat.le_refl _) (I1.hok.fresh (Nat.le_refl _))
/-- what a loop asks of its walk -/
def LoopR (D : Ends) (g : TG) (tb : TS) (σ : L2.St) : It → Hp → Prop := fun J H1 => ∃ W : Nat → Nat → L2.St → Hp → Prop, (∃ m, W 0 m σ H1) ∧ ∀ i m σ H, W i m σ H →
  (J.stop i H ∧ D.nx σ H) ∨ (J.go i H ∧ ∃ N : L2.St → Hp → Prop, (∀ σ' H', N σ' H' → ∃ m', m' < m ∧ W (i + 1) m' σ' H') ∧ ∀ x H', J.yld i H x H' → g x σ H' fun σ2 H2 => tb { D with nx := N, ct := N, bk := D.nx } σ2 H2)
def dFor (wi : TI) (g : TG) (tb : TS) : TS := fun D σ H => wi σ H (LoopR D g tb σ)
theorem ps_for {X : Cx} {tg iter : Expr} {body : List Stmt} {wi : TI} {g : TG} {tb : TS} {pos : Pos} (hp : PassesOwn (model X.prog X.w) X.A X.env X.xe) (hc : X.calm = true) (hi : PI X tg iter wi) (hg : PG X tg g) (hb : PSs X body tb)
    (hs : ∀ x, foldedSetIterable iter X.env x = pure x := by intro _; rfl) : PS X (.For tg iter body [] pos) (dFor wi g tb) := L2.ps_for hp hc hi hg hb hs
/-- the sequence at p stands as it stood -/
def Stay (K : Frag) (p : Addr) (H H' : Hp) : Prop := ∀ xs, (SqL K H p xs → SqL K H' p xs) ∧ (SqT K H p xs → SqT K H' p xs)
theorem Same.tup {K : Frag} {H H' : Hp} {a : Addr} {xs : List V} (e : Same H H') (h : SqT K H a xs) : SqT K H' a xs := by
  rcases h with (h | ⟨o, h⟩) | h
  · exact .inl (.inl (e _ _ h))
  · exact .inl (.inr ⟨o, e _ _ h⟩)
  · exact .inr h
theorem Same.stay {K : Frag} {H H' : Hp} {a : Addr} (e : Same H H') : Stay K a H H' := fun _ => ⟨e.seq, Same.tup e⟩
/-- all but what stands at st stays -/
def SameX (st : Addr) (H H' : Hp) : Prop := ∀ b o, H b = some o → b ≠ st → H' b = some o
theorem SameX.refl (st : Addr) (H : Hp) : SameX st H H := fun _ _ h _ => h
theorem SameX.trans {st : Addr} {H H1 H2 : Hp} (a : SameX st H H1) (b : SameX st H1 H2) : SameX st H H2 := fun c o h n => b c o (a c o h n) n
theorem SameX.then {st : Addr} {H H1 H2 : Hp} (a : SameX st H H1) (b : Same H1 H2) : SameX st H H2 := fun c o h n => b c o (a c o h n)
theorem Same.thenX {st : Addr} {H H1 H2 : Hp} (a : Same H H1) (b : SameX st H1 H2) : SameX st H H2 := fun c o h n => b c o (a c o h) n
theorem Same.x {st : Addr} {H H1 : Hp} (a : Same H H1) : SameX st H H1 := fun c o h _ => a c o h
theorem SameX.upd {st : Addr} {H : Hp} {o : HO} : SameX st H (upd H st o) := fun b u h n => by rw [upd_ne n]; exact h
/-- what st was made behind H0 -/
theorem SameX.same {st : Addr} {H0 H H' : Hp} (a : Same H0 H) (b : SameX st H H') (n : H0 st = none) : Same H0 H' := fun c o h => b c o (a c o h) (ne_of_none h n)
theorem SameX.seq {K : Frag} {st : Addr} {H H' : Hp} {a : Addr} {xs : List V} (e : SameX st H H') (h : SqL K H a xs) (n : a ≠ st) : SqL K H' a xs := by
  rcases h with (h | ⟨o, h⟩) | h
  · exact .inl (.inl (e _ _ h n))
  · exact .inl (.inr ⟨o, e _ _ h n⟩)
  · exact .inr h
theorem SameX.tup {K : Frag} {st : Addr} {H H' : Hp} {a : Addr} {xs ys : List V} (e : SameX st H H') (h : SqT K H a xs) (hst : H st = some (.lst ys)) : SqT K H' a xs := by
  rcases h with (h | ⟨o, h⟩) | h
  · exact .inl (.inl (e _ _ h (ne_of h hst (by intro z; cases z))))
  · exact .inl (.inr ⟨o, e _ _ h (ne_of h hst (by intro z; cases z))⟩)
  · exact .inr h
theorem sl_upd {K : Frag} {H : Hp} {a p : Addr} {o : HO} {xs : List V} (h : SqL K H a xs) (n : a ≠ p) : SqL K (upd H p o) a xs := by
  rcases h with (h | ⟨u, h⟩) | h
  · exact .inl (.inl (by rw [upd_ne n]; exact h))
  · exact .inl (.inr ⟨u, by rw [upd_ne n]; exact h⟩)
  · exact .inr h
theorem st_upd {K : Frag} {H : Hp} {a p : Addr} {o : HO} {xs : List V} (h : SqT K H a xs) (n : a ≠ p) : SqT K (upd H p o) a xs := by
  rcases h with (h | ⟨u, h⟩) | h
  · exact .inl (.inl (by rw [upd_ne n]; exact h))
  · exact .inl (.inr ⟨u, by rw [upd_ne n]; exact h⟩)
  · exact .inr h
theorem up_of {H : Hp} {a p : Addr} {o u : HO} (n : a ≠ p) (h : H a = some u) : upd H p o a = some u := by rw [upd_ne n]; exact h
theorem SameX.put {st : Addr} {H0 H1 : Hp} {o : HO} (e : SameX st H0 H1) : SameX st H0 (L2.upd H1 st o) := e.trans SameX.upd
theorem appS {K : Frag} {H H1 : Hp} {a st : Addr} {xs : List V} (h : ∀ H1, SameX st H H1 → SqL K H1 a xs) (e : SameX st H H1) : SqL K H1 a xs := h H1 e
/-- over a list or a tuple that the body leaves as it is -/
theorem for_seq {K : Frag} {p : Addr} {xs : List V} {g : TG} {tb : TS} {D : Ends} {σ : L2.St} {H : Hp} (Pv : Nat → L2.St → Hp → Prop) (hx : SqA K H p xs) (h0 : Pv 0 σ H) (hl : ∀ i σ H', i ≤ xs.length → Pv i σ H' → Stay K p H H')
    (hs : ∀ i x σ H, xs[i]? = some x → Pv i σ H → g x σ H fun σ2 H2 => tb { D with nx := Pv (i + 1), ct := Pv (i + 1), bk := D.nx } σ2 H2) (hd : ∀ σ H, Pv xs.length σ H → D.nx σ H) :
    Walk K H p (LoopR D g tb σ) := by
  rcases hx with hx | hx
  · exact ⟨.inl ⟨⟨xs, hx⟩, for_list Pv h0 (fun i σ H' hi q => (hl i σ H' hi q xs).1 hx) hs hd⟩⟩
  · exact ⟨.inr ⟨⟨xs, hx⟩, for_tup Pv h0 (fun i σ H' hi q => (hl i σ H' hi q xs).2 hx) hs hd⟩⟩
/-! ### ranges -/
def iR1 (vs : List V) (H : Hp) (R : It → Hp → Prop) : Prop := match vs with
  | [.int j] => Need (-(2 ^ 62) ≤ j ∧ j < 2 ^ 62) (R (Itr 0 j.toNat) H)
  | _ => False
def iRng (ta : TA) : TI := fun σ H R => ta σ H fun vs H1 => iR1 vs H1 R
theorem pi_rng {X : Cx} {tg a : Expr} {ta : TA} {p pos : Pos} (hg : Gl X "range") (hm : X.mg "range" = none) (ha : PA X [a] ta) (hs : starEach [a] X.env = [(false, eval a X.env)] := by rfl) : PI X tg (.Call (.Name "range" p) [a] [] pos) (iRng ta) := by
  refine ⟨fun pins s σ H R I h => ?_⟩
  refine Call_ (ld_blt I hg hm boot_range (PyProof.Rows.callWith_type1 (thn (ha.run pos pins s σ H _ I h) fun us s1 ⟨vs, H1, I1, r1, q1⟩ => ?_) hs rfl))
  match vs, q1 with
  | [.int j], ⟨⟨q1, q2⟩, q⟩ =>
    cases r1 with
    | cons r rr =>
      cases rr
      obtain ⟨t, rfl⟩ := r
      exact call_range_1 (range_it I1 (by omega) (by omega) q1 q2 (by simpa using q))
theorem for_rng {n : Int} {g : TG} {tb : TS} {D : Ends} {σ : L2.St} {H : Hp} (Pv : Nat → L2.St → Hp → Prop) (h0 : Pv 0 σ H)
    (hs : ∀ (i : Nat) σ H, (i : Int) < n → Pv i σ H → g (.int i) σ H fun σ2 H2 => tb { D with nx := Pv (i + 1), ct := Pv (i + 1), bk := D.nx } σ2 H2) (hd : ∀ σ H, Pv n.toNat σ H → D.nx σ H) :
    LoopR D g tb σ (Itr 0 n.toNat) H := by
  refine L2.for_range (lo := 0) Pv h0 (fun i σ H hi q => ?_) hd
  have z := hs i σ H (by omega) q
  rw [Int.zero_add]; exact z
/-! ### while -/
/-! ### calls of the module's defs, by positional promises -/
/-- f(e, ..): what is raised is wished for at the caller's slots -/
def dCall (sp : Sp) (E : L2.St → XK) (t : TA) : TE := fun σ H Q => t σ H fun vs H1 => sp vs H1 Q (E σ)
section
variable {X : Cx} {k : Nat} {g : Addr} {sp : Sp} {E : L2.St → XK} {x : Str} {p pos : Pos} {e : Expr} {es : List Expr} {t : TA}
theorem run_R {pins : List (Addr × Obj)} {σ : L2.St} {H : Hp} {s : Shared} {Q : VK} {us : List Value} {vs : List V} (F : FnR X.prog X.w X.K X.mg X.base (L2.CX X.prog X.w) k g sp) (hr : Room k X.A) (hx : PassesAt (L2.CX X.prog X.w) X σ (E σ))
    (I : Inv X pins σ H s) (r : Vals vs us) (h : sp vs H Q (E σ)) : wpAny (model X.prog X.w) X.A (call (.ref g) us) (EP X pins σ Q) X.xe s := by
  refine wpAny_call (codeAny_mono (F X.A X.stack s H us vs Q (E σ) hr I.env0 r h) fun r s' hq => ?_)
  cases r with
  | error e => exact hx pins H s e s' I hq
  | ok fl =>
    cases fl with
    | ret u => exact I.after hq
    | next => exact False.elim hq
    | brk => exact False.elim hq
    | cont => exact False.elim hq
theorem pe_call (F : FnR X.prog X.w X.K X.mg X.base (L2.CX X.prog X.w) k g sp) (hr : Room k X.A) (hm : X.mg x = some (.ref g)) (hk : PySem.W.keepIn X.K (.ref g) = true) (hx : ∀ σ, PassesAt (L2.CX X.prog X.w) X σ (E σ))
    (ha : PA X (e :: es) t) (hg : Gl X x := by rfl) (hdb : (x == ("__debug__" : Str)) = false := by decide) (he : starEach (e :: es) X.env = (false, eval e X.env) :: starEach es X.env := by rfl) (hpl : (backTo pos (starEach es X.env)).any (·.1) = false := by rfl) :
    PE X (.Call (.Name x p) (e :: es) [] pos) (dCall sp E t) := by
  refine ⟨fun pins s σ H Q I h => ?_⟩
  refine wpAny_Call_Name_kw (ld_glob I hg hm ?_ hdb)
  refine PySem.W.callWith_K (h₀ := X.base) I.ok.mod.kin hk (thn (ha.run pos pins s σ H _ I h) fun us s1 ⟨vs, H1, I1, r, q⟩ => ⟨I1.kIn, ?_⟩) he hpl
  exact run_R F hr (hx σ) I1 r q
end
/-- f(e, ..), f a built-in function | type -/
theorem pe_cb {X : Cx} {x : Str} {p pos : Pos} {e : Expr} {es : List Expr} {t : TA} {id : String} {r : List V → Hp → VK → Prop} (hc : CallR X (.builtin id) r) (hm : X.mg x = none) (hv : bootBuiltins x = some (.builtin id)) (ha : PA X (e :: es) t) (hg : Gl X x := by rfl) (hn : x ≠ "__name__" := by decide) (hdb : (x == ("__debug__" : Str)) = false := by decide)
    (he : starEach (e :: es) X.env = (false, eval e X.env) :: starEach es X.env := by rfl) (hpl : (backTo pos (starEach es X.env)).any (·.1) = false := by rfl) : PE X (.Call (.Name x p) (e :: es) [] pos) (tCB r t) := pe_callB hc hg hm hv ha hn hdb he hpl
theorem pe_ct {X : Cx} {x : Str} {p pos : Pos} {e : Expr} {es : List Expr} {t : TA} {T : String} {r : List V → Hp → VK → Prop} (hc : CallR X (.type T) r) (hm : X.mg x = none) (hv : bootBuiltins x = some (.type T)) (ha : PA X (e :: es) t) (hg : Gl X x := by rfl) (hn : x ≠ "__name__" := by decide) (hdb : (x == ("__debug__" : Str)) = false := by decide)
    (he : starEach (e :: es) X.env = (false, eval e X.env) :: starEach es X.env := by rfl) (hpl : (backTo pos (starEach es X.env)).any (·.1) = false := by rfl) : PE X (.Call (.Name x p) (e :: es) [] pos) (tCB r t) := pe_callTy hc hg hm hv ha hn hdb he hpl
/-- a built-in's name as a value -/
theorem pe_bt {X : Cx} {x : Str} {n : String} {pos : Pos} (hm : X.mg x = none) (hv : bootBuiltins x = some (.type n)) (hg : Gl X x := by rfl) (hn : x ≠ "__name__" := by decide) (hd : (x == ("__debug__" : Str)) = false := by decide) : PE X (.Name x pos) (tC (.ty n)) := pe_bltn hg hm hv rfl hn hd
/-! ### a def by its body -/
section
variable {P : Program} {w : World} {K : Frag} {mg : Str → Option Value} {base : Heap}
abbrev FR (P : Program) (w : World) (K : Frag) (mg : Str → Option Value) (base : Heap) (k : Nat) (f : Addr) (sp : Sp) : Prop := FnR P w K mg base (L2.CX P w) k f sp
/-- the context of a def's body -/
abbrev cxD (P : Program) (w : World) (K : Frag) (mg : Str → Option Value) (base : Heap) (N : List Str) (qual : Str) (scope : Scope) (f : Addr) (cd : Value) (A : Around) (outer : List Env) (s : Shared) (H : Hp) (E : XK) : Cx := cxOf (L2.CX P w) P w K mg base N qual scope f cd A outer s H E
theorem mk_fn {x qual : Str} {params : Arguments} {body : List Stmt} {scope : Scope} {f : Addr} {fd : FuncData} {N ps : List Str} {k : Nat} {sp : Sp} (F : FunD K x qual params body scope [] [] f fd) (S : FnScope N ps scope) (len : ∀ vs H Q E, sp vs H Q E → vs.length = ps.length)
    (hb : ∀ (kV doc pm : Value) (an : Option Addr) (cdv ct : Value) (us : List Value), us.length = ps.length → bindArgs (PySem.W.fnOf x qual params body scope .none kV doc pm an cdv ct) ⟨us, []⟩ = pure (ps.zip us)) {t : XK → TS}
    (hbody : ∀ (cdv : Value) (A : Around) (outer : List Env) (s : Shared) (H : Hp) (E : XK), Room k (A.deeper (envOfC qual scope s.heap.objs.size f cdv)) →
      PSs (cxD P w K mg base N qual scope f cdv A outer s H E) body (t E))
    (pure : ∀ vs H Q E, sp vs H Q E → t E { nx := fun _ H' => Q .non H', rt := Q } (start N vs) H) : FR P w K mg base (k + 1) f sp := by
  have z := (FunD.ok (P := P) (w := w) (mg := mg) (base := base) (CX := L2.CX P w) (sp := sp) F S len fun cdv A outer s H vs Q E hr h => ⟨t E, hbody cdv A outer s H E hr, pure vs H Q E h⟩).raw (F.bindsN hb) .nil
  intro A outer s H us vs Q E hr e0 r hs
  exact z A outer s H us vs Q E hr e0 r (by show sp (vs ++ []) H Q E; rw [List.append_nil]; exact hs)
end
/-- the wish of a def's body: what leaves it leaves the def -/
abbrev EW (E : XK) : L2.St → XK := fun _ => E
theorem passD {P : Program} {w : World} {K : Frag} {mg : Str → Option Value} {base : Heap} {N : List Str} {qual : Str} {scope : Scope} {f : Addr} {cd : Value} {A : Around} {outer : List Env} {s : Shared} {H : Hp} {E : XK} :
    ∀ σ, PassesAt (L2.CX P w) (cxD P w K mg base N qual scope f cd A outer s H E) σ (EW E σ) := fun σ => passAt (takes_of rfl rfl rfl rfl) σ
theorem ownD {P : Program} {w : World} {K : Frag} {mg : Str → Option Value} {base : Heap} {N : List Str} {qual : Str} {scope : Scope} {f : Addr} {cd : Value} {A : Around} {outer : List Env} {s : Shared} {H : Hp} {E : XK} :
    PassesOwn (model P w) (cxD P w K mg base N qual scope f cd A outer s H E).A (cxD P w K mg base N qual scope f cd A outer s H E).env (cxD P w K mg base N qual scope f cd A outer s H E).xe := passes_of rfl
/-! ### named rests: the walk stops there -/
structure Stop (t : TS) (D : Ends) (σ : L2.St) (H : Hp) : Prop where
  go : t D σ H
def stop (t : TS) : TS := fun D σ H => Stop t D σ H
theorem pss_stop {X : Cx} {st : List Stmt} {t : TS} (h : PSs X st t) : PSs X st (stop t) := ⟨fun pins s σ H D I q => h.run pins s σ H D I q.go⟩
/-! ### the law's own def: nothing leaves it -/
theorem passL0 {X : Cx} : ∀ σ, PassesAt (L2.CX X.prog X.w) X σ (EW E0 σ) := fun _ _ _ _ _ _ _ h => by
  obtain ⟨_, _, _, _, _, _, _, _, _, _, _, _, z⟩ := h
  exact z.elim
theorem mk_law {P : Program} {w : World} {K : Frag} {mg : Str → Option Value} {base : Heap} {x qual : Str} {params : Arguments} {body : List Stmt} {scope : Scope} {f : Addr} {fd : FuncData} {N ps : List Str} {k : Nat} {sp : Sp} (F : FunD K x qual params body scope [] [] f fd) (S : FnScope N ps scope) (len : ∀ vs H Q E, sp vs H Q E → vs.length = ps.length)
    {t : XK → TS} (hbody : ∀ (cdv : Value) (A : Around) (outer : List Env) (s : Shared) (H : Hp) (E : XK), Room k (A.deeper (envOfC qual scope s.heap.objs.size f cdv)) →
      PSs (cxOf CX0 P w K mg base N qual scope f cdv A outer s H E).nox body (t E0))
    (pure : ∀ vs H Q E, sp vs H Q E → t E0 { nx := fun _ H' => Q .non H', rt := Q } (start N vs) H) : FnOk P w K mg base CX0 (k + 1) f fd ps sp :=
  FunD.ok F S len fun cdv A outer s H vs Q E hr h => ⟨t E0, PSs.nox (hbody cdv A outer s H E hr), pure vs H Q E h⟩
/-! ### comprehensions with one for -/
structure Wr (R : It → Hp → Prop) (J : It) (H : Hp) : Prop where
  go : R J H
theorem pi_wr {X : Cx} {tg iter : Expr} {wi : TI} (h : PI X tg iter wi) : PI X tg iter (fun σ H R => wi σ H (Wr R)) := ⟨fun pins s σ H R I q =>
  thn (h.run pins s σ H (Wr R) I q) fun _ _ z => thn z fun _ _ ⟨it, fp, tn, J, H', e, I', T, t0, f, r⟩ => ⟨it, fp, tn, J, H', e, I', T, t0, f, r.go⟩⟩
def LcGo (g : TG) (tt : TT) (te : TE) (vs : List Nat) (σ : L2.St) (Q : VK) (J : It) (H1 : Hp) : Prop :=
  ∀ D, H1 D = none → ∃ W : Nat → Nat → Hp → Prop, (∃ m, W 0 m (upd H1 D (.lst []))) ∧ ∀ i m H, W i m H →
    (J.stop i H ∧ Q (.ref D) H) ∨ (J.go i H ∧ ∃ Nx : Hp → Prop, (∀ H', Nx H' → ∃ m', m' < m ∧ W (i + 1) m' H') ∧ ∀ x H', J.yld i H x H' → g x (wipe σ vs) H' fun σ2 H2 => wipe σ2 vs = wipe σ vs ∧ tt σ2 H2 fun b H3 =>
      if b = true then te σ2 H3 fun y H4 => ∃ acc, H4 D = some (.lst acc) ∧ acc.length < sizeLine ∧ Nx (upd H4 D (.lst (acc ++ [y]))) else Nx H3)
def dLc (wi : TI) (g : TG) (tt : TT) (te : TE) (vs : List Nat) : TE := fun σ H Q => wi σ H (Wr (LcGo g tt te vs σ Q))
theorem pe_lc {X : Cx} {elt tg iter : Expr} {ifs : List Expr} {scope : Scope} {own : List (Str × Nat)} {pos : Pos} {wi : TI} {g : TG} {tt : TT} {te : TE} (hc : X.calm = true) (hN : X.N.Nodup) (hi : PI X tg iter wi) (ok : BlkOk X.N X.env.scope scope own)
    (hg : ∀ (s : Shared) (H : Hp) (C : Addr) (cl : List (Str × Addr)) (fp : List Addr), PG (X.blk s H scope (compEnvC scope cl C X.env) fp) tg g) (ht : ∀ (s : Shared) (H : Hp) (C : Addr) (cl : List (Str × Addr)) (fp : List Addr), PTs (X.blk s H scope (compEnvC scope cl C X.env) fp) ifs tt)
    (he : ∀ (s : Shared) (H : Hp) (C : Addr) (cl : List (Str × Addr)) (fp : List Addr), PE (X.blk s H scope (compEnvC scope cl C X.env) fp) elt te) (hs : ∀ x, foldedSetIterable iter X.env x = pure x := by intro _; rfl) :
    PE X (.ListComp elt [⟨tg, iter, ifs, 0⟩] scope pos) (dLc wi g tt te (own.map (·.2))) := L2.pe_lc hc hN (pi_wr hi) ok hg ht he hs
theorem ps_setLc {X : Cx} {i : Nat} {y : Str} {py : Pos} {elt tg iter : Expr} {ifs : List Expr} {scope : Scope} {own : List (Str × Nat)} {pos spos : Pos} {wi : TI} {g : TG} {tt : TT} {te : TE} (hc : X.calm = true) (hN : X.N.Nodup) (hy : X.N[i]? = some y) (hyl : X.env.scope.names.lookup y = some .local)
    (hsw : swapsWith (.ListComp elt [⟨tg, iter, ifs, 0⟩] scope pos) (some (.Name y py)) spos.line X.env = pure true) (hi : PI X tg iter wi) (ok : BlkOk X.N X.env.scope scope own)
    (hg : ∀ (s : Shared) (H : Hp) (C : Addr) (cl : List (Str × Addr)) (fp : List Addr), PG (X.blk s H scope (compEnvC scope cl C X.env) fp) tg g) (ht : ∀ (s : Shared) (H : Hp) (C : Addr) (cl : List (Str × Addr)) (fp : List Addr), PTs (X.blk s H scope (compEnvC scope cl C X.env) fp) ifs tt)
    (he : ∀ (s : Shared) (H : Hp) (C : Addr) (cl : List (Str × Addr)) (fp : List Addr), PE (X.blk s H scope (compEnvC scope cl C X.env) fp) elt te) (hs : ∀ x, foldedSetIterable iter X.env x = pure x := by intro _; rfl) :
    PS X (.Assign [.Name y py] (.ListComp elt [⟨tg, iter, ifs, 0⟩] scope pos) spos) (tAsg (dLc wi g tt te (own.map (·.2))) (gName i)) := L2.ps_setLc hc hN hy hyl hsw (pi_wr hi) ok hg ht he hs
/-- over a list or a tuple, by a word over (turn, heap): the new list stands at D -/
theorem lc_seq {K : Frag} {p : Addr} {xs : List V} {g : TG} {tt : TT} {te : TE} {vs : List Nat} {σ : L2.St} {H1 : Hp} {Q : VK} (hx : SqA K H1 p xs)
    (h : ∀ D, H1 D = none → ∃ Pv : Nat → Hp → Prop, Pv 0 (upd H1 D (.lst [])) ∧ (∀ i H, i ≤ xs.length → Pv i H → ∀ ys, (SqL K H1 p ys → SqL K H p ys) ∧ (SqT K H1 p ys → SqT K H p ys)) ∧
      (∀ i x H, xs[i]? = some x → Pv i H → g x (wipe σ vs) H fun σ2 H2 => wipe σ2 vs = wipe σ vs ∧ tt σ2 H2 fun b H3 =>
        if b = true then te σ2 H3 fun y H4 => ∃ acc, H4 D = some (.lst acc) ∧ acc.length < sizeLine ∧ Pv (i + 1) (upd H4 D (.lst (acc ++ [y]))) else Pv (i + 1) H3) ∧ (∀ H, Pv xs.length H → Q (.ref D) H)) :
    Walk K H1 p (Wr (LcGo g tt te vs σ Q)) := by
  rcases hx with hx | hx
  · refine ⟨.inl ⟨⟨xs, hx⟩, ⟨fun D hD => ?_⟩⟩⟩
    obtain ⟨Pv, h0, hl, hs, hd⟩ := h D hD
    exact lc_list (Qd := fun H => Q (.ref D) H) Pv h0 (fun i H hi q => (hl i H hi q xs).1 hx) hs hd
  · refine ⟨.inr ⟨⟨xs, hx⟩, ⟨fun D hD => ?_⟩⟩⟩
    obtain ⟨Pv, h0, hl, hs, hd⟩ := h D hD
    exact lc_tup (Qd := fun H => Q (.ref D) H) Pv h0 (fun i H hi q => (hl i H hi q xs).2 hx) hs hd
/-- all but lists stays (dicts too) -/
def SameI (H H' : Hp) : Prop := ∀ b o, H b = some o → (∀ l, o ≠ .lst l) → H' b = some o
theorem Same.i {H H' : Hp} (e : Same H H') : SameI H H' := fun b o h _ => e b o h
theorem SameI.trans {H H1 H2 : Hp} (a : SameI H H1) (b : SameI H1 H2) : SameI H H2 := fun c o h n => b c o (a c o h n) n
theorem SameI.lst {H : Hp} {p : Addr} {xs ys : List V} (h : H p = some (.lst xs)) : SameI H (L2.upd H p (.lst ys)) := fun b o hb n => by
  by_cases e : b = p
  · subst e; rw [h] at hb; exact absurd (Option.some.inj hb).symm (n xs)
  · rw [upd_ne e]; exact hb
theorem SameX.i {st : Addr} {H H' : Hp} {xs : List V} (e : SameX st H H') (h : H st = some (.lst xs)) : SameI H H' := fun b o hb n => e b o hb fun z => by
  subst z; rw [h] at hb; exact n xs (Option.some.inj hb).symm
theorem SameI.tup {K : Frag} {H H' : Hp} {a : Addr} {xs : List V} (e : SameI H H') (h : SqT K H a xs) : SqT K H' a xs := by
  rcases h with (h | ⟨o, h⟩) | h
  · exact .inl (.inl (e _ _ h fun _ z => by cases z))
  · exact .inl (.inr ⟨o, e _ _ h fun _ z => by cases z⟩)
  · exact .inr h
theorem take_filter {xs : List V} {pr : V → Bool} {i : Nat} {x : V} (h : xs[i]? = some x) : (xs.take (i + 1)).filter pr = (xs.take i).filter pr ++ (if pr x = true then [x] else []) := by
  rw [List.take_succ, h, List.filter_append]
  congr 1
  show [x].filter pr = _
  by_cases e : pr x = true <;> simp [e]
/-- .. whose test is told by a function of the item, its elements by a relation -/
theorem lc_rel {K : Frag} {p : Addr} {xs : List V} {g : TG} {tt : TT} {te : TE} {vs : List Nat} {σ : L2.St} {H1 : Hp} {Q : VK} (R : V → V → Hp → Prop) (pr : V → Bool) (hx : SqA K H1 p xs) (hz : xs.length < sizeLine) (mono : ∀ x y H H', R x y H → SameI H H' → R x y H')
    (hs : ∀ x H (A : V → Hp → Prop) (B : Hp → Prop), x ∈ xs → Same H1 H → (∀ y H', Same H H' → R x y H' → pr x = true → A y H') → (∀ H', Same H H' → pr x = false → B H') →
      g x (wipe σ vs) H fun σ2 H2 => wipe σ2 vs = wipe σ vs ∧ tt σ2 H2 fun b H3 => if b = true then te σ2 H3 A else B H3)
    (hd : ∀ D ys H', H1 D = none → H' D = some (.lst ys) → Paired (fun x y => R x y H') (xs.filter pr) ys → Same H1 H' → Q (.ref D) H') :
    Walk K H1 p (Wr (LcGo g tt te vs σ Q)) := by
  refine lc_seq hx fun D hD => ⟨fun i H => ∃ ys, H D = some (.lst ys) ∧ Paired (fun x y => R x y H) ((xs.take i).filter pr) ys ∧ Same H1 H, ⟨[], upd_same, .nil, same_new hD⟩, fun i H _ ⟨_, _, _, e⟩ ys => ⟨e.seq, Same.tup e⟩, ?_, fun H ⟨ys, h1, h2, e⟩ => hd D ys H hD h1 (by rw [List.take_length] at h2; exact h2) e⟩
  rintro i x H hi ⟨ys, h1, h2, e⟩
  have hlen : ys.length ≤ i := by
    rw [← h2.length]
    exact Nat.le_trans (List.length_filter_le _ _) (by rw [List.length_take]; exact Nat.min_le_left _ _)
  have hil : i < xs.length := (List.getElem?_eq_some_iff.mp hi).1
  refine hs x H _ _ (List.mem_of_getElem? hi) e (fun y H' e2 r hp => ⟨ys, e2 _ _ h1, by omega, ys ++ [y], upd_same, ?_, ?_⟩) fun H' e2 hp => ⟨ys, e2 _ _ h1, ?_, e.trans e2⟩
  · have si : SameI H' (upd H' D (.lst (ys ++ [y]))) := SameI.lst (e2 _ _ h1)
    rw [take_filter hi, if_pos hp]
    exact Paired.snoc (Paired.mapP h2 fun a b r => mono _ _ _ _ r (SameI.trans (Same.i e2) si)) (mono _ _ _ _ r si)
  · intro b o hb
    rw [upd_ne (ne_of_none hb hD)]
    exact e2 _ _ (e _ _ hb)
  · rw [take_filter hi, if_neg (by rw [hp]; exact Bool.false_ne_true), List.append_nil]
    exact Paired.mapP h2 fun a b r => mono _ _ _ _ r (Same.i e2)
/-- .. whose test and elements are told by functions of the item -/
theorem lc_map {K : Frag} {p : Addr} {xs : List V} {g : TG} {tt : TT} {te : TE} {vs : List Nat} {σ : L2.St} {H1 : Hp} {Q : VK} (f : V → V) (pr : V → Bool) (hx : SqA K H1 p xs) (hz : xs.length < sizeLine)
    (hs : ∀ x H (A : V → Hp → Prop) (B : Hp → Prop), x ∈ xs → Same H1 H → (∀ H', Same H H' → pr x = true → A (f x) H') → (∀ H', Same H H' → pr x = false → B H') →
      g x (wipe σ vs) H fun σ2 H2 => wipe σ2 vs = wipe σ vs ∧ tt σ2 H2 fun b H3 => if b = true then te σ2 H3 A else B H3)
    (hd : ∀ D H', H1 D = none → H' D = some (.lst ((xs.filter pr).map f)) → Same H1 H' → Q (.ref D) H') :
    Walk K H1 p (Wr (LcGo g tt te vs σ Q)) := by
  refine lc_rel (fun x y _ => y = f x) pr hx hz (fun _ _ _ _ r _ => r) (fun x H A B hm e hA hB => hs x H A B hm e (fun H' e2 hp => hA _ _ e2 rfl hp) hB) fun D ys H' hn hD hp e => hd D H' hn ?_ e
  have key : ∀ {as bs : List V}, Paired (fun x y => y = f x) as bs → bs = as.map f := by
    intro as bs h
    induction h with
    | nil => rfl
    | cons r _ ih => rw [r, ih]; rfl
  rw [← key hp]; exact hD
end S
namespace S
open PySem PySem.Spec PyProof.Rows L2
/-! ### classes by their names -/
/-- the class x: below the classes ups of the text and the built-in ones tys -/
structure MF (K : Frag) (x : Str) (ups : List Str) (tys : List String) : Prop where
  cd : ∃ cd, PySem.W.clsIn K (He.ga K x) = some cd ∧ cd.name = x ∧ cd.mro = (x :: ups).map (fun y => Value.ref (He.ga K y)) ++ tys.map Value.type
  up : ∀ y ∈ ups, ∃ cd, PySem.W.clsIn K (He.ga K y) = some cd ∧ cd.name = y
  ty : PySem.W.typeIn K (.ref (He.ga K x)) = some (.type "type")
theorem nmB_ok {K : Frag} {y : Str} (h : nmB K y = true) : ∃ cd, PySem.W.clsIn K (He.ga K y) = some cd ∧ cd.name = y := by
  unfold nmB at h
  split at h
  · rename_i cd e
    exact ⟨cd, e, of_decide_eq_true h⟩
  · cases h
theorem mfB_ok {K : Frag} {x : Str} {ups : List Str} {tys : List String} (h : mfB K x ups tys = true) : MF K x ups tys := by
  unfold mfB at h
  obtain ⟨h1, h2⟩ := He.ba h
  obtain ⟨h3, h4⟩ := He.ba h2
  refine ⟨?_, fun y hy => nmB_ok (List.all_eq_true.mp h3 y hy), of_decide_eq_true h4⟩
  split at h1
  · rename_i cd e
    obtain ⟨h5, h6⟩ := He.ba h1
    exact ⟨cd, e, of_decide_eq_true h5, of_decide_eq_true h6⟩
  · cases h1
theorem nm_inj {K : Frag} {x y : Str} (h1 : ∃ cd, PySem.W.clsIn K (He.ga K x) = some cd ∧ cd.name = x) (h2 : ∃ cd, PySem.W.clsIn K (He.ga K y) = some cd ∧ cd.name = y) (e : He.ga K x = He.ga K y) : x = y := by
  obtain ⟨c1, e1, n1⟩ := h1
  obtain ⟨c2, e2, n2⟩ := h2
  rw [e, e2] at e1
  cases e1
  exact n1.symm.trans n2
theorem MF.nm {K : Frag} {x : Str} {ups : List Str} {tys : List String} (m : MF K x ups tys) : ∃ cd, PySem.W.clsIn K (He.ga K x) = some cd ∧ cd.name = x := let ⟨cd, a, b, _⟩ := m.cd; ⟨cd, a, b⟩
theorem MF.all {K : Frag} {x : Str} {ups : List Str} {tys : List String} (m : MF K x ups tys) : ∀ y ∈ x :: ups, ∃ cd, PySem.W.clsIn K (He.ga K y) = some cd ∧ cd.name = y := fun y hy => by
  rcases List.mem_cons.mp hy with e | e
  · subst e; exact m.nm
  · exact m.up y e
section
variable {K : Frag} {x y : Str} {ups ups' : List Str} {tys tys' : List String}
theorem mf_sub (m : MF K x ups tys) (b : Value) : PySem.W.subIn K (.ref (He.ga K x)) b = some (decide (b ∈ (x :: ups).map (fun y => Value.ref (He.ga K y)) ++ tys.map Value.type)) := by
  obtain ⟨cd, e, _, hm⟩ := m.cd
  show PySem.W.mroIn K (He.ga K x) b = _
  unfold PySem.W.mroIn
  rw [e, Option.bind_some, hm, if_neg (by simp)]
  congr 1
  rw [Bool.eq_iff_iff]
  simp
theorem mf_cls (m : MF K x ups tys) (n : MF K y ups' tys') : PySem.W.kitCls K (.ref (He.ga K x)) (.ref (He.ga K y)) = some (decide (y ∈ x :: ups)) := by
  obtain ⟨cd, e, _⟩ := n.cd
  show (if ((PySem.W.clsIn K (He.ga K y)).isSome && PySem.W.typeIn K (.ref (He.ga K y)) == some (.type "type")) = true then PySem.W.subIn K (.ref (He.ga K x)) (.ref (He.ga K y)) else none) = _
  rw [if_pos (by rw [e, n.ty]; simp), mf_sub m]
  congr 1
  rw [decide_eq_decide]
  simp only [List.mem_append, List.mem_map]
  constructor
  · rintro (⟨z, hz, e⟩ | ⟨z, _, e⟩)
    · rw [← nm_inj (m.all z hz) n.nm (Value.ref.inj e)]
      exact hz
    · cases e
  · intro h
    exact .inl ⟨y, h, rfl⟩
theorem mf_kit (m : MF K x ups tys) (n : MF K y ups' tys') : PySem.W.kitOne K (.ref (He.ga K x)) (.ref (He.ga K y)) = some (decide (y ∈ x :: ups)) := by
  unfold PySem.W.kitOne
  split
  · rename_i h
    have e := nm_inj m.nm n.nm (Value.ref.inj (beq_iff_eq.mp h))
    subst e
    rw [decide_eq_true (List.mem_cons_self)]
  · exact mf_cls m n
end
/-! ### classes with slots -/
structure CF (K : Frag) (x : Str) (fs : List Str) : Prop where
  mf : MF K x [] ["object"]
  sc : SlX.SCls K (He.ga K x)
  si : SlX.SIsi K (He.ga K x)
  sl : ∀ i f, fs[i]? = some f → SlX.Slot1 K (He.ga K x) f (He.ma K (He.ga K x) f) i
theorem sclsB_ok {K : Frag} {C : Addr} (h : sclsB K C = true) : SlX.SCls K C := by
  obtain ⟨h1, h⟩ := He.ba h
  obtain ⟨h2, h⟩ := He.ba h
  obtain ⟨h3, h4⟩ := He.ba h
  exact ⟨h1, h2, h3, He.eqO_ok h4⟩
theorem sisiB_ok {K : Frag} {C : Addr} (h : sisiB K C = true) : SlX.SIsi K C := by
  obtain ⟨h1, h⟩ := He.ba h
  obtain ⟨h2, h⟩ := He.ba h
  obtain ⟨h3, h4⟩ := He.ba h
  exact ⟨He.eqO_ok h1, He.eqO_ok h2, of_decide_eq_true h3, of_decide_eq_true h4⟩
theorem slotB_ok {K : Frag} {C : Addr} {f : Str} {p : Addr} {i : Nat} (h : slotB K C f p i = true) : SlX.Slot1 K C f p i := by
  obtain ⟨h1, h⟩ := He.ba h
  obtain ⟨h2, h⟩ := He.ba h
  obtain ⟨h3, h⟩ := He.ba h
  obtain ⟨h4, h⟩ := He.ba h
  obtain ⟨h5, h6⟩ := He.ba h
  exact ⟨He.eqO_ok h1, He.eqO_ok h2, of_decide_eq_true h3, of_decide_eq_true h4, of_decide_eq_true h5, of_decide_eq_true h6⟩
theorem slotsB_ok {K : Frag} {C : Addr} : ∀ {fs : List Str} {n : Nat}, slotsB K C fs n = true → ∀ i f, fs[i]? = some f → SlX.Slot1 K C f (He.ma K C f) (n + i)
  | [], _, _, i, f, e => by simp at e
  | g :: r, n, h, i, f, e => by
    obtain ⟨h1, h2⟩ := He.ba (show (slotB K C g (He.ma K C g) n && slotsB K C r (n + 1)) = true from h)
    cases i with
    | zero =>
      have e' : g = f := by simpa using e
      subst e'
      exact slotB_ok h1
    | succ i =>
      have z := slotsB_ok h2 i f (by simpa using e)
      rw [show n + 1 + i = n + (i + 1) by omega] at z
      exact z
theorem cfB_ok {K : Frag} {x : Str} {fs : List Str} (h : cfB x fs K = true) : CF K x fs := by
  obtain ⟨h1, h⟩ := He.ba h
  obtain ⟨h2, h⟩ := He.ba h
  obtain ⟨h3, h4⟩ := He.ba h
  exact ⟨mfB_ok h1, sclsB_ok h2, sisiB_ok h3, fun i f e => by have z := slotsB_ok h4 i f e; rw [Nat.zero_add] at z; exact z⟩
/-! ### the exceptions -/
/-! ### given facts -/
def dGiv (P : Prop) (t : TE) : TE := fun σ H Q => P → t σ H Q
theorem pe_giv {X : Cx} {e : Expr} {P : Prop} {t : TE} (p : P) (h : PE X e t) : PE X e (dGiv P t) := ⟨fun pins s σ H Q I q => h.run pins s σ H Q I (q p)⟩
/-! ### attributes -/
structure Atr (K : Frag) (H : Hp) (a : Addr) (f : Str) (k : V → Prop) : Prop where
  ex : (∃ C dx p vs i v, SlX.Slt H a C dx vs ∧ SlX.SCls K C ∧ SlX.Slot1 K C f p i ∧ vs[i]? = some (some v) ∧ k v) ∨ (∃ C dx fs v, H a = some (.ins C dx fs) ∧ Cls K C ∧ NoAttr K C f ∧ fs.lookup f = some v ∧ k v)
theorem Atr.sl {K : Frag} {H : Hp} {a dx : Addr} {f x : Str} {k : V → Prop} {fs : List Str} {vs : List (Option V)} {i : Nat} {v : V} (c : CF K x fs) (h : SlX.Slt H a (He.ga K x) dx vs) (e : fs[i]? = some f) (l : vs[i]? = some (some v)) (q : k v) : Atr K H a f k := ⟨.inl ⟨_, dx, _, vs, i, v, h, c.sc, c.sl i f e, l, q⟩⟩
def dAt (K : Frag) (f : Str) (ta : TE) : TE := fun σ H Q => ta σ H fun x H1 => match x with
  | .ref a => Atr K H1 a f fun v => Q v H1
  | _ => False
theorem pe_at {X : Cx} {e : Expr} {f : Str} {pos : Pos} {ta : TE} (he : PE X e ta) (hb : attributeBase e f X.env (eval e X.env) = eval e X.env := by rfl) : PE X (.Attribute e f pos) (dAt X.K f ta) := by
  refine ⟨fun pins s σ H Q I h => ?_⟩
  refine attr_of hb (thn (he.run pins s σ H _ I h) fun u s1 ⟨x, H1, I1, rx, q⟩ => ?_)
  cases x <;> try exact q.elim
  cases rx
  rcases q.ex with ⟨C, dx, p, vs, i, v, hs, c, t, l, q⟩ | ⟨C, dx, fs, v, ea, c, n, l, q⟩
  · exact SlX.getslot_ok I1 hs c t l fun u' s2 I2 ru => ⟨v, H1, I2, ru, q⟩
  · exact getattr_ok I1 ea c n l fun u' s2 I2 ru => ⟨v, H1, I2, ru, q⟩
structure Sto (K : Frag) (H : Hp) (a : Addr) (f : Str) (y : V) (k : Hp → Prop) : Prop where
  ex : (∃ C dx p vs i, SlX.Slt H a C dx vs ∧ SlX.SCls K C ∧ SlX.Slot1 K C f p i ∧ k (SlX.slH H a C dx (SlX.putS i y vs))) ∨ (∃ C dx fs, H a = some (.ins C dx fs) ∧ Cls K C ∧ NoAttr K C f ∧ fs.length < 1000 ∧ k (upd H a (.ins C dx (putF f y fs))))
theorem Sto.sl {K : Frag} {H : Hp} {a dx : Addr} {f x : Str} {k : Hp → Prop} {fs : List Str} {vs : List (Option V)} {i : Nat} {y : V} (c : CF K x fs) (h : SlX.Slt H a (He.ga K x) dx vs) (e : fs[i]? = some f) (q : k (SlX.slH H a (He.ga K x) dx (SlX.putS i y vs))) : Sto K H a f y k := ⟨.inl ⟨_, dx, _, vs, i, h, c.sc, c.sl i f e, q⟩⟩
def dSto (K : Frag) (f : Str) (tv ta : TE) : TS := fun D σ H => tv σ H fun y H1 => ta σ H1 fun x H2 => match x with
  | .ref a => Sto K H2 a f y fun H3 => D.nx σ H3
  | _ => False
theorem ps_sto {X : Cx} {o value : Expr} {f : Str} {pos pos' : Pos} {ta tv : TE} (hv : PE X value tv) (ha : PE X o ta) (hs : swapsWith value (some (.Attribute o f pos')) pos.line X.env = pure false := by rfl) : PS X (.Assign [.Attribute o f pos'] value pos) (dSto X.K f tv ta) := by
  refine ⟨fun pins s σ H D I h => ?_⟩
  refine plainObj_wpAny_Assign_Attribute (thn (hv.run pins s σ H _ I h) fun u s1 ⟨y, H1, I1, ry, q⟩ => thn (ha.run pins s1 σ H1 _ I1 q) fun ov s2 ⟨x, H2, I2, rx, q2⟩ => ?_) hs
  cases x <;> try exact q2.elim
  cases rx
  rcases q2.ex with ⟨C, dx, p, vs, i, hsl, c, t, q2⟩ | ⟨C, dx, fs, ea, c, n, l, q2⟩
  · exact SlX.setslot_ok I2 hsl c t ry fun s3 I3 => ⟨σ, _, I3, q2⟩
  · exact setattr_ok I2 ea c n l ry fun s3 I3 => ⟨σ, _, I3, q2⟩
/-! ### new instances -/
structure NewI (K : Frag) (H : Hp) (c : Str) (k : Addr → Hp → Prop) : Prop where
  go : ∀ x dx, H x = none → H dx = none → dx ≠ x → k x (upd (upd H dx (.own x)) x (.ins (He.ga K c) dx []))
def dMake (K : Frag) (c : Str) (sp : Sp) (E : L2.St → XK) (t : TA) : TE := fun σ H Q => t σ H fun vs H1 => NewI K H1 c fun x H2 => sp (.ref x :: vs) H2 (fun v H3 => v = .non ∧ Q (.ref x) H3) (E σ)
section
variable {X : Cx} {k : Nat} {g : Addr} {sp : Sp} {E : L2.St → XK} {x c m : Str} {p pos apos : Pos} {e o : Expr} {es : List Expr} {t : TA} {ta : TE}
theorem run_mk {pins : List (Addr × Obj)} {σ : L2.St} {H : Hp} {s : Shared} {Q : VK} {us : List Value} {vs : List V} (M : Mk X.K (He.ga X.K c) g) (F : FnR X.prog X.w X.K X.mg X.base (L2.CX X.prog X.w) k g sp) (hr : Room (k + 1) X.A) (hx : PassesAt (L2.CX X.prog X.w) X σ (E σ))
    (I : Inv X pins σ H s) (r : Vals vs us) (h : NewI X.K H c fun x H2 => sp (.ref x :: vs) H2 (fun v H3 => v = .non ∧ Q (.ref x) H3) (E σ)) : wpAny (model X.prog X.w) X.A (call (.ref (He.ga X.K c)) us) (EP X pins σ Q) X.xe s := by
  have hq := h.go (s.heap.objs.size + 1) s.heap.objs.size (I.hok.fresh (Nat.le_succ _)) (I.hok.fresh (Nat.le_refl _)) (Nat.ne_of_lt (Nat.lt_succ_self _))
  have I2 := Inv.made (C := He.ga X.K c) I
  have r2 : Vals (V.ref (s.heap.objs.size + 1) :: vs) (Value.ref (s.heap.objs.size + 1) :: us) := .cons rfl r
  refine wpAny_call (make_map (f := g) I.kIn M.makes M.init (beq_iff_eq.mp M.fn) (codeAny_mono (F _ X.stack _ _ (Value.ref (s.heap.objs.size + 1) :: us) _ _ (E σ) (hr.make (He.ga X.K c) us []) (I2.env0.make (He.ga X.K c) us []) r2 hq) fun r s' hq' => ?_))
  cases r with
  | error e => exact hx pins _ _ e s' I2 hq'
  | ok fl =>
    cases fl with
    | ret u =>
      obtain ⟨v, H', I3, rv, ev, q3⟩ := I2.after hq'
      subst ev
      exact ⟨rv, ⟨V.ref (s.heap.objs.size + 1), H', I3, rfl, q3⟩⟩
    | next => exact False.elim hq'
    | brk => exact False.elim hq'
    | cont => exact False.elim hq'
theorem pe_mk (M : Mk X.K (He.ga X.K c) g) (F : FnR X.prog X.w X.K X.mg X.base (L2.CX X.prog X.w) k g sp) (hr : Room (k + 1) X.A) (hm : X.mg c = some (.ref (He.ga X.K c))) (hx : ∀ σ, PassesAt (L2.CX X.prog X.w) X σ (E σ))
    (ha : PA X (e :: es) t) (hg : Gl X c := by rfl) (hdb : (c == ("__debug__" : Str)) = false := by decide) (he : starEach (e :: es) X.env = (false, eval e X.env) :: starEach es X.env := by rfl) (hpl : (backTo pos (starEach es X.env)).any (·.1) = false := by rfl) :
    PE X (.Call (.Name c p) (e :: es) [] pos) (dMake X.K c sp E t) := by
  refine ⟨fun pins s σ H Q I h => ?_⟩
  refine wpAny_Call_Name_kw (ld_glob I hg hm ?_ hdb)
  refine PySem.W.callWith_K (h₀ := X.base) I.ok.mod.kin M.kp (thn (ha.run pos pins s σ H _ I h) fun us s1 ⟨vs, H1, I1, r, q⟩ => ⟨I1.kIn, ?_⟩) he hpl
  exact run_mk M F hr (hx σ) I1 r q
/-! ### methods of instances with slots -/
structure IsO (K : Frag) (H : Hp) (c : Str) (a : Addr) (q : Prop) : Prop where
  ex : ∃ dx vs, SlX.Slt H a (He.ga K c) dx vs
  q : q
theorem IsO.of {K : Frag} {H : Hp} {c : Str} {a dx : Addr} {q : Prop} {vs : List (Option V)} (h : SlX.Slt H a (He.ga K c) dx vs) (h2 : q) : IsO K H c a q := ⟨⟨dx, vs, h⟩, h2⟩
def dMeth (K : Frag) (c : Str) (sp : Sp) (E : L2.St → XK) (ta : TE) (t : TA) : TE := fun σ H Q => ta σ H fun x H1 => match x with
  | .ref a => IsO K H1 c a (t σ H1 fun ws H2 => sp (.ref a :: ws) H2 Q (E σ))
  | _ => False
theorem pe_meth {pl : Sem Bool} (hc : SlX.SCls X.K (He.ga X.K c)) (hm : Meth X.K (He.ga X.K c) m g) (F : FnR X.prog X.w X.K X.mg X.base (L2.CX X.prog X.w) k g sp) (hr : Room k X.A) (hx : ∀ σ, PassesAt (L2.CX X.prog X.w) X σ (E σ)) (he : PE X o ta) (ha : PA X (e :: es) t)
    (hst : starEach (e :: es) X.env = (false, eval e X.env) :: starEach es X.env := by rfl) (hpl : (backTo pos (starEach es X.env)).any (·.1) = false := by rfl)
    (ht : eval (.Call (.Attribute o m apos) (e :: es) [] pos) X.env = (do
      let ov ← eval o X.env
      standAt apos.atName
      let (f, first) ← holding [ov] (getMethod ov m pl)
      callWith pos f first (backTo pos (starEach (e :: es) X.env)) (backToKw pos (keywordEach [] X.env))) := by rfl) :
    PE X (.Call (.Attribute o m apos) (e :: es) [] pos) (dMeth X.K c sp E ta t) := by
  refine ⟨fun pins s σ H Q I h => ?_⟩
  refine PySem.W.methodCall_KW (pl := pl) (thn (he.run pins s σ H _ I h) fun u s1 ⟨x, H1, I1, rx, q⟩ => ?_) ht
  cases x <;> try exact q.elim
  cases rx
  obtain ⟨⟨dx, vs, hsl⟩, q⟩ := q
  refine SlX.getmethsl_ok I1 hsl hc hm ?_
  refine PySem.W.callWith_K (first := [.ref _]) (h₀ := X.base) I.ok.mod.kin hm.kp (thn (ha.run pos pins s1 σ H1 _ I1 q) fun us s2 ⟨ws, H2, I2, r, q2⟩ => ⟨I2.kIn, ?_⟩) hst hpl
  exact run_R (us := .ref _ :: us) (vs := .ref _ :: ws) F hr (hx σ) I2 (.cons rfl r) q2
end
/-! ### raise, try -/
/-! ### defaults -/
def spD (sp : Sp) (dvs : List V) : Sp := fun vs H Q E => sp (vs ++ dvs) H Q E
theorem mk_fnD {P : Program} {w : World} {K : Frag} {mg : Str → Option Value} {base : Heap} {x qual : Str} {params : Arguments} {body : List Stmt} {scope : Scope} {f : Addr} {fd : FuncData} {N ps : List Str} {k : Nat} {sp : Sp} {dvs ex : List V} {kws : List (Str × V)} (F : FunD K x qual params body scope dvs kws f fd) (S : FnScope N ps scope)
    (len : ∀ vs H Q E, sp vs H Q E → vs.length = ps.length) (hb : ∃ ds, Vals ex ds ∧ Binds K fd ps ds) {t : XK → TS}
    (hbody : ∀ (cdv : Value) (A : Around) (outer : List Env) (s : Shared) (H : Hp) (E : XK), Room k (A.deeper (envOfC qual scope s.heap.objs.size f cdv)) →
      PSs (cxD P w K mg base N qual scope f cdv A outer s H E) body (t E))
    (pure : ∀ vs H Q E, sp vs H Q E → t E { nx := fun _ H' => Q .non H', rt := Q } (start N vs) H) : FR P w K mg base (k + 1) f (spD sp ex) := by
  obtain ⟨ds, hv, hb⟩ := hb
  exact (FunD.ok (P := P) (w := w) (mg := mg) (base := base) (CX := L2.CX P w) (sp := sp) F S len fun cdv A outer s H vs Q E hr h => ⟨t E, hbody cdv A outer s H E hr, pure vs H Q E h⟩).raw hb hv
/-! ### functions behind wrappers -/
/-! ### defs by their addresses -/
theorem DfX.funD {K : Frag} {d : DfX} (hclo : d.clo = []) (e : fnX K (d.ad K) = d.val) (c : d.ok K = true) : ∃ fd, FunD K d.name d.qual d.params d.body d.scope (d.dvs K) (d.kws K) (d.ad K) fd := by
  obtain ⟨kp, c2⟩ := He.ba c
  unfold fnX at e
  split at e
  · rename_i oc od fd osl q
    rw [q] at c2
    obtain ⟨k1, k2⟩ := He.ba c2
    obtain ⟨k3, k4⟩ := He.ba k2
    obtain ⟨n1, n2, n3, n4, n5, n6, n7, n8, n9, n10, n11, n12, n13, n14, n15⟩ := fd
    unfold DfX.val at e
    rw [hclo] at e
    simp only [Option.some.injEq, Prod.mk.injEq, List.map_nil, List.map_eq_nil_iff] at e
    obtain ⟨h1, h2, h3, h4, h5, h6, h7, h8⟩ := e
    subst h1 h2 h3 h4 h5 h6 h7 h8
    exact ⟨_, ⟨oc, od, n8, n9, n10, n11, n12, n13, n14, osl, rfl, q, k1, He.dflB_ok k3, He.kwdB_ok k4⟩, kp⟩
  · cases e
/-! ### the hook -/
section
variable {fa : List He.Fa} {fx : List (Frag → Bool)} {fn : List DfX} {K : Frag}
theorem SaysX.fst (c : SaysX fa fx fn K) : (fa.all fun f => f.ok K) = true ∧ (fx.all fun f => f K) = true ∧ (fn.all fun d => d.ok K) = true := by
  have z : ((fa.all fun f => f.ok K) && ((fx.all fun f => f K) && fn.all fun d => d.ok K)) = true := congrArg (fun z : AlX => z.1) c
  obtain ⟨a, b⟩ := He.ba z
  exact ⟨a, He.ba b⟩
theorem SaysX.fact (c : SaysX fa fx fn K) (i : Nat) {f : He.Fa} (h : fa[i]? = some f := by rfl) : f.ok K = true := List.all_eq_true.mp c.fst.1 f (List.mem_of_getElem? h)
theorem SaysX.more (c : SaysX fa fx fn K) (i : Nat) {f : Frag → Bool} (h : fx[i]? = some f := by rfl) : f K = true := List.all_eq_true.mp c.fst.2.1 f (List.mem_of_getElem? h)
theorem SaysX.fnv (c : SaysX fa fx fn K) (i : Nat) {d : DfX} (h : fn[i]? = some d := by rfl) : fnX K (d.ad K) = d.val := by
  have e : fn.map (fun d => fnX K (d.ad K)) = fn.map DfX.val := congrArg (fun z : AlX => z.2) c
  have e2 : (fn.map fun d => fnX K (d.ad K))[i]? = (fn.map DfX.val)[i]? := by rw [e]
  rw [List.getElem?_map, List.getElem?_map, h] at e2
  exact Option.some.inj e2
theorem SaysX.def_ (c : SaysX fa fx fn K) (i : Nat) {d : DfX} (h : fn[i]? = some d := by rfl) (hclo : d.clo = [] := by rfl) : ∃ fd, FunD K d.name d.qual d.params d.body d.scope (d.dvs K) (d.kws K) (d.ad K) fd := by
  have e : fn.map (fun d => fnX K (d.ad K)) = fn.map DfX.val := congrArg (fun z : AlX => z.2) c
  have e2 : (fn.map fun d => fnX K (d.ad K))[i]? = (fn.map DfX.val)[i]? := by rw [e]
  rw [List.getElem?_map, List.getElem?_map, h] at e2
  exact DfX.funD hclo (Option.some.inj e2) (List.all_eq_true.mp c.fst.2.2 d (List.mem_of_getElem? h))
end
end S
namespace S
open PySem PySem.Spec PyProof.Rows L2
/-! ### bool(x): by its truth -/
section
variable {X : Cx} {k : Nat} {g : Addr} {sp : Sp} {E : XK} {c m : Str} {ups : List Str} {tys : List String}
/-- the class's own def, called for an operator -/
theorem run_op {A : Around} {pins : List (Addr × Obj)} {σ : L2.St} {H : Hp} {s : Shared} {Q : VK} {us : List Value} {vs : List V} (F : FnR X.prog X.w X.K X.mg X.base (L2.CX X.prog X.w) k g sp) (hr : Room k A) (e0 : Env0 X.prog X.w X.K X.mg X.base A X.stack s H) (hx : ∀ σ, PassesAt (L2.CX X.prog X.w) X σ E)
    (I : Inv X pins σ H s) (r : Vals vs us) (h : sp vs H Q E) : wpAny (model X.prog X.w) A (call (.ref g) us) (EP X pins σ Q) X.xe s := by
  refine wpAny_call (codeAny_mono (F A X.stack s H us vs Q E hr e0 r h) fun r s' hq => ?_)
  cases r with
  | error e => exact hx σ pins H s e s' I hq
  | ok fl =>
    cases fl with
    | ret u => exact I.after hq
    | next => exact False.elim hq
    | brk => exact False.elim hq
    | cont => exact False.elim hq
end
/-! ### tuples of the module -/
def TupG (K : Frag) (x : Str) (vs : List V) : Prop := ∀ H, SqT K H (He.ga K x) vs
theorem tupG_ok {K : Frag} {x : Str} {vs : List He.Dv} (h : He.tupB K x vs = true) : TupG K x (vs.map (He.Dv.v K)) := fun H => He.tupB_ok h H
end S
namespace S
open PySem PySem.Spec PyProof.Rows L2
/-! ### enumerate over a tuple -/
def oNin (K : Frag) : R2 := fun x y H Q => match y with
  | .ref p => Rd K H p fun xs => Need (flatV x = true ∧ xs.all flatV = true) (Q (.bl (!inV x xs)) H)
  | _ => False
theorem o_nin {X : Cx} : OpR X (compareOp .NotIn) (oNin X.K) := OpR.of op_notIn_seq fun x y H Q q => by
  cases y <;> try exact q.elim
  obtain ⟨⟨xs, hx, ⟨⟨f1, f2⟩, q⟩⟩⟩ := q
  exact ⟨_, xs, rfl, hx, f1, f2, q⟩
/-- sorted(a list of numbers) -/
structure Srt (K : Frag) (H : Hp) (p : Addr) (Q : V → Hp → Prop) : Prop where
  ex : ∃ ns : List Int, SqL K H p (ns.map V.int) ∧ ∀ (ns' : List Int) (q : Addr), ns'.Perm ns → ns'.Pairwise (· ≤ ·) → H q = none → Q (.ref q) (upd H q (.lst (ns'.map V.int)))
def cSorted (K : Frag) : List V → Hp → VK → Prop := fun xs H Q => match xs with
  | [.ref p] => Srt K H p Q
  | _ => False
theorem c_sorted {X : Cx} : CallR X (.builtin "sorted") (cSorted X.K) := CallR.of cr_sortedI fun xs H Q q => by
  match xs, q with
  | [.ref p], ⟨⟨ns, h1, h2⟩⟩ => exact ⟨p, ns, rfl, h1, h2⟩
end S
namespace S
open PySem PySem.Spec PyProof.Rows L2
/-! ### number * number, list * number -/
def oMulA : R2 := fun x y H Q => match x, y with
  | .int i, .int j => Need (CMul i j) (Q (.int (i * j)) H)
  | .ref l, .int k => Ls H l fun xs => Need (-(2 ^ 63) ≤ k ∧ k < 2 ^ 63 ∧ xs.length * k.toNat ≤ sizeLine) (NewL H (List.replicate k.toNat xs).flatten Q)
  | _, _ => False
theorem o_mulA {X : Cx} : OpR X (binaryOp .Mult) oMulA := OpR.of (op_mul.or op_rep) fun x y H Q q => by
  cases x <;> cases y <;> try exact q.elim
  · exact .inl ⟨_, _, rfl, rfl, q.c, q.q⟩
  · obtain ⟨⟨xs, h, ⟨⟨h1, h2, h3⟩, ⟨q⟩⟩⟩⟩ := q
    exact .inr ⟨_, _, xs, rfl, rfl, h, h1, h2, h3, q⟩
/-! ### staticmethods -/
section
variable {X : Cx} {k : Nat} {sp : Sp} {E : L2.St → XK} {c m : Str} {pos apos : Pos} {o e : Expr} {es : List Expr} {t : TA}
end
end S
namespace S
open PySem PySem.Spec PyProof.Rows L2
/-! ### exceptions with an own __init__ over super().__init__ -/
section
variable {P : Program} {w : World} {K : Frag} {mg : Str → Option Value} {base : Heap} {CX : CXT} {c fld nm qual par msg : Str} {params : Arguments} {body : List Stmt} {scope : Scope} {fI : Addr} {fd : FuncData} {p0 p1 p2 p3 p4 p5 p6 p7 p8 p9 : Pos} {j : Nat}
end
/-! ### raise C(e) -/
/-! ### e.f, e the exception of the suite -/
/-! ### such a class in the head -/
theorem cellTo_ok {K : Frag} {cc C : Addr} (h : cellTo K cc C = true) : ∃ cl cld csl, K.lookup cc = some ⟨cl, cld, .cell (some (.ref C)), csl⟩ := by
  unfold cellTo at h
  split at h
  · rename_i cl cld D csl lc
    have e := of_decide_eq_true h
    subst e
    exact ⟨_, _, _, lc⟩
  · cases h
theorem codeFile_ok {P : Program} {K : Frag} {cda : Addr} (h : codeFile P K cda = true) : ∃ ccl cdd vs ccs file tf, K.lookup cda = some ⟨ccl, cdd, .fields vs, ccs⟩ ∧ vs[2]? = some (.str file tf) ∧ ((P.main.file : Str) == file) = true := by
  unfold codeFile at h
  split at h
  · rename_i ccl cdd vs ccs lcd
    split at h
    · rename_i file tf hvs
      exact ⟨ccl, cdd, vs, ccs, file, tf, lcd, hvs, h⟩
    · cases h
  · cases h
theorem cloB_ok {P : Program} {K : Frag} {C : Addr} {code : Value} {clo : List (Str × Addr)} (h : cloB P K C code clo = true) : ∃ cda nm cc, code = .ref cda ∧ clo = [(nm, cc)] ∧ cellTo K cc C = true ∧ codeFile P K cda = true := by
  unfold cloB at h
  split at h
  · obtain ⟨h1, h2⟩ := He.ba h
    exact ⟨_, _, _, rfl, rfl, h1, h2⟩
  · cases h
end S
namespace S
open PySem PySem.Spec PyProof.Rows L2
/-! ### x not in o, o with its own __contains__ -/
section
variable {X : Cx} {k : Nat} {g : Addr} {sp : Sp} {E : XK} {c : Str}
end
/-! ### n.bit_length() -/
/-- the least width of a number -/
def widI (i : Int) : Nat := Builtin.Int.intBits (if i < 0 then -i - 1 else i) + 1
theorem bits_le {i : Int} (h : 0 ≤ i) (h1 : 0 < Builtin.Int.intBits i) : (2 ^ (Builtin.Int.intBits i - 1) : Int) ≤ i := by
  unfold Builtin.Int.intBits at h1 ⊢
  by_cases h0 : i = 0
  · subst h0; exact absurd h1 (by decide)
  · rw [if_neg (by simpa using h0)]
    have h3 : 2 ^ i.natAbs.log2 ≤ i.natAbs := Nat.log2_self_le (by omega)
    have h2 : ((2 : Int) ^ (i.natAbs.log2 + 1 - 1)) = ((2 ^ i.natAbs.log2 : Nat) : Int) := by simp
    rw [h2]; omega
theorem widI_least {i : Int} (h : 1 < widI i) : i < -(2 ^ (widI i - 2) : Int) ∨ (2 ^ (widI i - 2) : Int) ≤ i := by
  unfold widI at h ⊢
  by_cases h0 : i < 0
  · rw [if_pos h0] at h ⊢
    have := bits_le (i := -i - 1) (by omega) (by omega)
    have e : Builtin.Int.intBits (-i - 1) + 1 - 2 = Builtin.Int.intBits (-i - 1) - 1 := by omega
    rw [e]; omega
  · rw [if_neg h0] at h ⊢
    have := bits_le (i := i) (by omega) (by omega)
    have e : Builtin.Int.intBits i + 1 - 2 = Builtin.Int.intBits i - 1 := by omega
    rw [e]; omega
end S
namespace S
open PySem PySem.Spec PyProof.Rows L2
/-! ### range(a, b, -1) -/
/-! ### the head, its looks one by one -/
end S
namespace S
open PySem PySem.Spec PyProof.Rows L2
/-! ### i op x, x an instance with its own reflected op -/
section
variable {prog : Program} {w : World} {A : Around} {E : Value → Shared → Prop} {s : Shared} {K : Frag} {x C L f g : Addr} {h₀ : Heap} {m : Str → Option Value} {ox : Obj} {od : Option Obj}
end
section
variable {X : Cx} {k kR : Nat} {g gR : Addr} {sp spR : Sp} {E : XK} {c : Str} {ups : List Str} {tys : List String}
end
end S
namespace S
open PySem PySem.Spec PyProof.Rows L2
/-! ### abs of an instance with its own __abs__ -/
section
variable {X : Cx} {k : Nat} {g : Addr} {sp : Sp} {E : XK} {c : Str} {ups : List Str} {tys : List String}
end
/-! ### x op i, x an instance whose class has no reflected op -/
section
variable {X : Cx} {k : Nat} {g : Addr} {sp : Sp} {E : XK} {c : Str} {ups : List Str} {tys : List String}
end
/-! ### == of two tuples of instances with their own == -/
section
variable {prog : Program} {w : World} {A : Around} {R : Result → Shared → Prop}
end
section
variable {X : Cx} {k : Nat} {g : Addr} {sp : Sp} {E : XK} {c : Str}
end
end S
namespace S
open PySem PySem.Spec PyProof.Rows L2
/-! ### x op y: two instances of c by their own def; two others by r -/
section
variable {X : Cx} {k kR : Nat} {g gR : Addr} {sp spR : Sp} {E : XK} {c : Str} {ups : List Str} {tys : List String}
end
end S
namespace S
open PySem PySem.Spec PyProof.Rows L2
/-! ### the head's look, over what the named ones reach -/
end S
namespace S
open PySem PySem.Spec PyProof.Rows L2
/-! ### classes whose instances have a dict -/
structure DF (K : Frag) (x : Str) (ups : List Str) (fs : List Str) : Prop where
  mf : MF K x ups ["object"]
  cl : Cls K (He.ga K x)
  ha : PySem.W.findIn K (.ref (He.ga K x)) "__class__" = some (some (.builtin "object.__class__"))
  hn : PySem.W.specialIn K (.builtin "object.__class__") "__get__" = some (some (.builtin "getset_descriptor.__get__"))
  ht : PySem.W.takesIn K (.builtin "object.__class__") = some true
  hm : PySem.W.mroIn K (He.ga K x) (.type "object") = some true
  na : ∀ f ∈ fs, NoAttr K (He.ga K x) f
theorem dfB_ok {K : Frag} {x : Str} {ups fs : List Str} (h : dfB x ups fs K = true) : DF K x ups fs := by
  obtain ⟨h1, h⟩ := He.ba h
  obtain ⟨h2, h⟩ := He.ba h
  obtain ⟨h3, h⟩ := He.ba h
  obtain ⟨h4, h⟩ := He.ba h
  obtain ⟨h5, h⟩ := He.ba h
  obtain ⟨h6, h7⟩ := He.ba h
  exact ⟨mfB_ok h1, He.cls_ok h2, He.eqO_ok h3, He.eqO_ok h4, of_decide_eq_true h5, of_decide_eq_true h6, fun f hf => He.eqO_ok (List.all_eq_true.mp h7 f hf)⟩
section
variable {K : Frag} {H : Hp} {a dx : Addr} {x f : Str} {ups fs : List Str} {as : List (Str × V)}
theorem Atr.df {k : V → Prop} {v : V} (c : DF K x ups fs) (h : H a = some (.ins (He.ga K x) dx as)) (l : as.lookup f = some v) (q : k v) (hf : f ∈ fs := by decide) : Atr K H a f k := ⟨.inr ⟨_, dx, as, v, h, c.cl, c.na f hf, l, q⟩⟩
theorem Sto.df {k : Hp → Prop} {y : V} (c : DF K x ups fs) (h : H a = some (.ins (He.ga K x) dx as)) (l : as.length < 1000) (q : k (upd H a (.ins (He.ga K x) dx (putF f y as)))) (hf : f ∈ fs := by decide) : Sto K H a f y k := ⟨.inr ⟨_, dx, as, h, c.cl, c.na f hf, l, q⟩⟩
theorem Isi.df {y : Str} {ups' : List Str} {tys' : List String} {k : Bool → Prop} (c : DF K x ups fs) (h : H a = some (.ins (He.ga K x) dx as)) (n : MF K y ups' tys') (q : k (decide (y ∈ x :: ups))) : Isi K H (.ref a) (.ref (He.ga K y)) k :=
  Isi.of (.base (.ins h c.cl c.ha c.hn c.ht c.hm)) (mf_kit c.mf n) q
end
/-! ### methods, properties of such instances -/
section
variable {X : Cx} {k : Nat} {g : Addr} {sp : Sp} {E : L2.St → XK} {x c m : Str} {p pos apos : Pos} {e o : Expr} {es : List Expr} {t : TA} {ta : TE}
end
/-! ### calls with keywords -/
section
variable {X : Cx} {k n : Nat} {f g : Addr} {ks : List Str} {sp : Sp} {E : L2.St → XK} {x c m : Str} {p pos apos : Pos} {e o : Expr} {es : List Expr} {kws : List Keyword} {t tk : TA} {ta : TE} {gV : List V → List V → List V}
end
end S
namespace S
open PySem PySem.Spec PyProof.Rows L2
/-! ### sum(a list of numbers) -/
structure SumL (K : Frag) (H : Hp) (a : Addr) (k : Int → Prop) : Prop where
  ex : ∃ ns : List Int, SqL K H a (ns.map V.int) ∧ k ns.sum
theorem SumL.of {K : Frag} {H : Hp} {a : Addr} {k : Int → Prop} {ns : List Int} (h : H a = some (.lst (ns.map V.int))) (q : k ns.sum) : SumL K H a k := ⟨ns, SqL.of h, q⟩
def cSum (K : Frag) : List V → Hp → VK → Prop := fun xs H Q => match xs with
  | [.ref a] => SumL K H a fun i => Q (.int i) H
  | _ => False
theorem c_sum {X : Cx} (hc : X.calm = true) : CallR X (.builtin "sum") (cSum X.K) := CallR.of (cr_sum hc) fun xs H Q q => by
  match xs, q with
  | [.ref a], ⟨⟨ns, h, q⟩⟩ => exact ⟨a, ns, rfl, h, q⟩
end S
namespace S
open PySem PySem.Spec PyProof.Rows L2
/-! ### x == y of an instance ahead with its own def and anything behind -/
section
variable {X : Cx} {k : Nat} {g : Addr} {sp : Sp} {E : XK} {c : Str}
end
end S
namespace S
open PySem PySem.Spec PyProof.Rows L2
/-! ### == of tuples of instances: what one address means is known in the run -/
section
variable {X : Cx} {k : Nat} {g : Addr} {sp : Sp} {E : XK} {c : Str}
end
end S
namespace S
open PySem PySem.Spec PyProof.Rows L2 GenW
section
variable {prog : Program} {w : World} {A : Around} {R : GenEnd} {Y : Protocol} {n : Nat} {s₀ : Shared} {fs : List Frame} {s : Shared} {env : Env}
end
section
variable {X : Cx}
end
end S
namespace S
open PySem PySem.Spec PyProof.Rows L2 GenW
section
variable {P : Program} {w : World} {K : Frag} {mg : Str → Option Value} {base : Heap} {x qual : Str} {params : Arguments} {body : List Stmt} {scope : Scope} {dvs : List V} {kws : List (Str × V)} {f : Addr} {fd : FuncData}
end
/-! ### generators as values -/
section
variable {X : Cx} {k n : Nat} {f g : Addr} {sp : SpG} {x c m : Str} {p pos pos' apos : Pos} {e o : Expr} {es : List Expr} {t tk : TA} {ta : TE} {gV : List V → List V → List V} {ks : List Str} {kws : List Keyword}
end
end S
namespace S
open PySem PySem.Spec PyProof.Rows L2
section
variable {K : Frag} {a b : Addr} {xs zs : List V} {g : TG} {tb : TGn} {D : GEnds} {ys : List V} {σ : L2.St} {H : Hp}
end
/-! ### a < b < c < d as a test -/
end S
namespace S
open PySem PySem.Spec PyProof.Rows L2
/-! ### set(a list of numbers) -/
section
variable {P : Program} {w : World} {A : Around} {E : Value → Shared → Prop} {s : Shared}
end
section
variable {X : Cx}
theorem nodup_len {α : Type} [DecidableEq α] : ∀ (L D : List α), L.Nodup → (∀ z ∈ L, z ∈ D) → L.length ≤ D.length
  | [], _, _, _ => Nat.zero_le _
  | x :: L, D, hn, hD => by
    have hx := hD x (List.mem_cons_self ..)
    obtain ⟨h1, h2⟩ := List.nodup_cons.mp hn
    have := nodup_len L (D.erase x) h2 fun z hz => (List.mem_erase_of_ne (fun e => h1 (by rw [← e]; exact hz))).mpr (hD z (List.mem_cons_of_mem _ hz))
    rw [List.length_erase_of_mem hx] at this
    have hp : 0 < D.length := List.length_pos_of_mem hx
    rw [List.length_cons]; omega
/-- a reading closed under weaker wishes -/
def upE (te : TE) : TE := fun σ H Q => ∃ C : VK, te σ H C ∧ ∀ x H1, C x H1 → Q x H1
theorem pe_up {e : Expr} {te : TE} (he : PE X e te) : PE X e (upE te) := ⟨fun pins s σ H Q I h => by
  obtain ⟨C, h1, h2⟩ := h
  exact thn (he.run pins s σ H C I h1) fun v s1 ⟨x, H1, I1, r1, q1⟩ => ⟨x, H1, I1, r1, h2 x H1 q1⟩⟩
end
end S
namespace S
open PySem PySem.Spec PyProof.Rows L2
end S
namespace S
open PySem PySem.Spec PyProof.Rows L2
section
variable {X : Cx} {k n : Nat} {f : Addr} {sp : SpG} {x : Str} {p pos : Pos} {e : Expr} {es : List Expr} {t tk : TA} {gV : List V → List V → List V} {ks : List Str} {kws : List Keyword}
end
end S
namespace S
open PySem PySem.Spec PyProof.Rows L2 GenW
/-! ### a heap's beginning as the ground of a run -/
section
variable {X : Cx} {pins : List (Addr × Obj)} {σ : L2.St} {H H' : Hp} {s s' : Shared} {b : Shared × Hp} {oL : Obj}
end

/-! ### a generator's body whose yields are the consumer's turns -/
abbrev TurnK := List V → V → Hp → (Hp → Prop) → Prop
abbrev WakeZ := List V → Shared → Hp → Prop
section
variable {X : Cx} {Z : WakeZ} {Kc : TurnK} {st : Stmt} {rest : List Stmt}
end

/-! ### the call of such a def -/
end S
namespace S
open PySem PySem.Spec PyProof.Rows L2 GenW
section
variable (X : Cx)
end
section
variable {X : Cx} {pos : Pos} {a b c e : Expr} {ta tb tc te : TE}
end
end S
namespace S
open PySem PySem.Spec PyProof.Rows L2
end S
namespace S
open PySem PySem.Spec PyProof.Rows L2 GenW
section
variable {X : Cx} {pins : List (Addr × Obj)} {σ : L2.St} {H H' : Hp} {s s' : Shared}
end
end S
namespace S
open PySem PySem.Spec PyProof.Rows L2
end S
namespace S
open PySem PySem.Spec PyProof.Rows L2
open Sem (wp)
/-! ### what is gone stays gone -/
/-! ### a tuple's iterator -/
section
variable {X : Cx} {k : Nat} {g : Addr} {sp : Sp} {c : Str} {ups fs : List Str} {a : Addr}
end
end S
namespace S
open PySem PySem.Spec PyProof.Rows L2
open Sem (wp)
section
variable {X : Cx} {k : Nat} {g : Addr} {sp : Sp} {c : Str} {ups fs : List Str} {a : Addr}
end
end S
namespace S
open PySem PySem.Spec PyProof.Rows L2
end S
namespace S
open PySem PySem.Spec PyProof.Rows L2
abbrev Rw : Type := V × List Int
end S
namespace S
open PySem PySem.Spec PyProof.Rows L2
end S
namespace S
open PySem PySem.Spec PyProof.Rows L2
/-! ### a text walked -/
/-! ### sorted(set(..)) of a list or a tuple -/
section
variable {P : Program} {w : World} {A : Around} {E : Value → Shared → Prop} {s : Shared}
end
section
variable {X : Cx}
end
/-! ### except clauses without a name -/
end S
namespace S
open PySem PySem.Spec PyProof.Rows L2
end S
namespace S
open PySem PySem.Spec PyProof.Rows L2
end S
namespace S
open PySem PySem.Spec PyProof.Rows L2
end S
namespace S
open PySem PySem.Spec PyProof.Rows L2
end S
namespace S
open PySem PySem.Spec PyProof.Rows L2
section
variable {X : Cx} {elt tg iter tg1 iter1 : Expr} {ifs ifs1 : List Expr} {scope : Scope} {own : List (Str × Nat)} {vs1 : List Nat} {pos spos : Pos} {wi wi1 : TI} {g g1 : TG} {tt tt1 : TT} {te : TE}
end
end S
namespace S
open PySem PySem.Spec PyProof.Rows L2
end S
namespace S
open PySem PySem.Spec PyProof.Rows L2
end S
namespace S
open PySem PySem.Spec PyProof.Rows L2
/-! ### a new one -/
structure NewD (H : Hp) (u : HO) (Q : VK) : Prop where
  go : ∀ p, H p = none → Q (.ref p) (upd H p u)
def dNewK : TE := fun _ H Q => NewD H (.dK []) Q
theorem pe_newK {X : Cx} {pos : Pos} : PE X (.Dict [] [] pos) dNewK := PE.of pe_dnewK fun σ H Q q => q.go
/-! ### d[k] -/
structure DG (H : Hp) (a : Addr) (y : V) (k : V → Prop) : Prop where
  ex : ∃ v, DGet H a y (some v) ∧ k v
theorem dget_k {H : Hp} {a : Addr} {kvs : List (Key × V)} {k : Key} {o : Option V} (e : L2.Rd H a (.dK kvs)) (l : valV kvs k = o) : DGet H a (kV k) o := .inl ⟨kvs, k, e, rfl, l.symm⟩
theorem DG.s {H : Hp} {a : Addr} {kvs : List (Key × V)} {z : Str} {v : V} {k : V → Prop} (e : L2.Rd H a (.dK kvs)) (l : valV kvs (.inr z) = some v) (q : k v) : DG H a (.str z) k := ⟨v, dget_k (k := .inr z) e l, q⟩
def oIxD (K : Frag) : R2 := fun x y H Q => match x, y with
  | .ref a, .str z => DG H a (.str z) fun v => Q v H
  | .ref a, .ref b => DG H a (.ref b) fun v => Q v H
  | x, y => oIx K x y H Q
theorem ix_dict {X : Cx} (hu : X.A.units + 64 < cLine) : IxR X (oIxD X.K) := by
  intro e1 e2 pins s σ H x y v u Q I rx ry q hs
  have two : ∀ a, x = .ref a → DG H a y (fun v => Q v H) → wpAny (model X.prog X.w) X.A (subscriptTail e1 e2 v u) (EP X pins σ Q) X.xe s := by
    intro a ea h9
    obtain ⟨z, g, q9⟩ := h9.ex
    subst ea
    cases rx
    exact tail_any (dict_typeIs I g) PySem.F.slot_dict_getitem.lookup (d_getItem (by omega) I g ry fun w' s' I' rw' => ⟨z, H, I', rw', q9⟩) hs
  cases x <;> cases y <;> first
    | exact two _ rfl q
    | exact ix_any e1 e2 pins s σ H _ _ v u Q I rx ry q hs
/-! ### k in d -/
/-! ### d[k] = v -/
structure StD (H : Hp) (a : Addr) (i v : V) (k : Hp → Prop) : Prop where
  ex : ∃ H', DPut H a i v H' ∧ k H'
theorem StD.s {H : Hp} {a : Addr} {kvs : List (Key × V)} {z : Str} {v : V} {k : Hp → Prop} (e : H a = some (.dK kvs)) (hl : kvs.length < sizeLine) (q : k (upd H a (.dK (putK kvs (.inr z) v)))) : StD H a (.str z) v k := ⟨_, DPut.k (k := .inr z) e hl, q⟩
def oSetD : V → V → V → Hp → (Hp → Prop) → Prop := fun o i v H Q => match o, i with
  | .ref a, .str z => StD H a (.str z) v Q
  | .ref a, .ref b => StD H a (.ref b) v Q
  | o, i => oSet o i v H Q
theorem s_dict {X : Cx} (hu : X.A.units + 64 < cLine) : PSet X oSetD := by
  intro pins s σ H o i v uo ui uv Q I ro ri rv q
  have two : ∀ a, o = .ref a → StD H a i v Q → wpAny (model X.prog X.w) X.A (setItem uo ui uv) (fun x s' => ∃ H', L2.Inv X pins σ H' s' ∧ Q H') X.xe s := by
    intro a ea h9
    obtain ⟨H', g, q9⟩ := h9.ex
    exact set_dict (X := X) (by omega) pins s σ H o i v uo ui uv Q I ro ri rv ⟨a, H', ea, g, q9⟩
  cases o <;> cases i <;> first
    | exact two _ rfl q
    | exact s_list pins s σ H _ _ v uo ui uv Q I ro ri rv q
/-! ### d.get(k, x) -/
/-! ### tuples whose very object is known -/
def TupF (H : Hp) (a : Addr) (xs : List V) : Prop := ∃ o : Obj, H a = some (.frz o (.tup xs)) ∧ o.cls = .type "tuple" ∧ o.dict = none
theorem TupF.t {K : Frag} {H : Hp} {a : Addr} {xs : List V} (h : TupF H a xs) : SqT K H a xs := let ⟨o, h, _⟩ := h; .inl (.inr ⟨o, h⟩)
theorem TupF.same {H H' : Hp} {a : Addr} {xs : List V} (h : TupF H a xs) (e : Same H H') : TupF H' a xs := let ⟨o, h, c⟩ := h; ⟨o, e _ _ h, c⟩
theorem TupF.x {H H' : Hp} {a st : Addr} {xs : List V} (h : TupF H a xs) (e : SameX st H H') (n : ∀ o u, H st ≠ some (.frz o u)) : TupF H' a xs := let ⟨o, h, c⟩ := h; ⟨o, e _ _ h fun z => n _ _ (z ▸ h), c⟩
structure NewTF (H : Hp) (ys : List V) (Q : VK) : Prop where
  go : ∀ p H', Same H H' → H p = none → TupF H' p ys → Q (.ref p) H'
structure LsQ (K : Frag) (H : Hp) (p : Addr) (k : List V → Prop) : Prop where
  ex : ∃ xs, SqL K H p xs ∧ k xs
theorem LsQ.of {K : Frag} {H : Hp} {p : Addr} {k : List V → Prop} {xs : List V} (h : H p = some (.lst xs)) (q : k xs) : LsQ K H p k := ⟨xs, SqL.of h, q⟩
def cTupleF (K : Frag) : List V → Hp → VK → Prop := fun xs H Q => match xs with
  | [.ref p] => LsQ K H p fun ys => NewTF H ys Q
  | _ => False
theorem c_tupleF {X : Cx} : CallR X (.type "tuple") (cTupleF X.K) := by
  intro pins s σ H xs us Q I r h
  match xs, h with
  | [.ref p], ⟨⟨ys, hq, q⟩⟩ =>
    rw [Vals.ref1 r]
    obtain ⟨its, r', pl, hz⟩ := I.list hq
    have hlen := r'.length
    refine call_tuple_list pl.isList (fun h' kp => ?_) (by simp only [List.size_toArray] <;> omega)
    have I1 : Inv X pins σ H { s with heap := h' } := I.kept (t' := s.toks) kp
    have ho : (h'.push { cls := .type "tuple", data := .seq its.toArray }).get? h'.objs.size = some { cls := .type "tuple", data := .seq its.toArray } := Heap.get?_push_size _ rfl
    have I2 : Inv X pins σ (upd H h'.objs.size (.frz { cls := .type "tuple", data := .seq its.toArray } (.tup ys))) { s with heap := h'.push { cls := .type "tuple", data := .seq its.toArray } } :=
      I1.laid (t' := s.toks) (fun b o e => Heap.get?_push_of_some _ e) (Nat.le_refl _) (show ObjOk X.prog X.w _ _ _ (.frz _ (.tup ys)) from ⟨ho, hz, its, r', IsTup.new _ _⟩)
    have hn := I1.hok.fresh (Nat.le_refl h'.objs.size)
    exact ⟨.ref h'.objs.size, _, I2, rfl, q.go _ _ (same_new hn) hn ⟨_, upd_same, rfl, rfl⟩⟩
/-! ### dict(a tuple of pairs), dict(a list of pairs), dict(a dict) -/
structure DictC (K : Frag) (H : Hp) (a : Addr) (Q : VK) : Prop where
  ex : (∃ (ps : List Addr) (kvs : List (Key × V)), (TupF H a (ps.map V.ref) ∨ SqL K H a (ps.map V.ref)) ∧ Paired (fun p kv => SqT K H p [kV kv.1, kv.2]) ps kvs ∧ ∀ p, H p = none → Q (.ref p) (upd H p (.dK (mergeK [] kvs)))) ∨
    ∃ kvs : List (Key × V), L2.Rd H a (.dK kvs) ∧ ∀ p, H p = none → Q (.ref p) (upd H p (.dK kvs))
theorem DictC.t {K : Frag} {H : Hp} {a : Addr} {Q : VK} {ps : List Addr} {kvs : List (Key × V)} (h : TupF H a (ps.map V.ref)) (hp : Paired (fun p kv => SqT K H p [kV kv.1, kv.2]) ps kvs) (q : ∀ p, H p = none → Q (.ref p) (upd H p (.dK (mergeK [] kvs)))) : DictC K H a Q := ⟨.inl ⟨ps, kvs, .inl h, hp, q⟩⟩
theorem DictC.d {K : Frag} {H : Hp} {a : Addr} {Q : VK} {kvs : List (Key × V)} (h : L2.Rd H a (.dK kvs)) (q : ∀ p, H p = none → Q (.ref p) (upd H p (.dK kvs))) : DictC K H a Q := ⟨.inr ⟨kvs, h, q⟩⟩
def cDict (K : Frag) : List V → Hp → VK → Prop := fun xs H Q => match xs with
  | [.ref a] => DictC K H a Q
  | _ => False
theorem refs_at2 : ∀ {ps : List Addr} {us : List Value}, Vals (ps.map V.ref) us → us = ps.map Value.ref
  | [], _, h => by cases h; rfl
  | p :: ps, _, h => by
    cases h with
    | cons r t => cases r; rw [refs_at2 t]; rfl
theorem c_dict {X : Cx} (hc : X.calm = true) : CallR X (.type "dict") (cDict X.K) := by
  intro pins s σ H xs us Q I r h
  match xs, h with
  | [.ref a], ⟨h⟩ =>
    rcases h with ⟨ps, kvs, ht | hl, hp, q⟩ | ⟨kvs, hd, q⟩
    · rw [Vals.ref1 r]
      obtain ⟨o, ho, c1, c2⟩ := ht
      obtain ⟨hg, hz, its, rv, o2, ho2, _, n, hdat⟩ := I.hok _ _ ho
      rw [hg] at ho2
      injection ho2 with ho2
      subst ho2
      have ei := refs_at2 rv
      subst ei
      rw [List.length_map] at hz
      obtain ⟨prs, rel, hl, hpr⟩ := pairs_of I hp
      have hu : ∀ (j : Nat) (q : Key × Value), prs[j]? = some q → ∃ u : Value, ∃ b, ps[j]? = some b ∧ IsTup s.heap b #[u, q.2] ∧ keyIs q.1 u = true := fun j q e => let ⟨b, u, h⟩ := hpr j q e; ⟨u, b, h⟩
      let kf : Nat → Value := fun j => match e : prs[j]? with | some q => (hu j q e).choose | none => .none
      have kfs : ∀ (j : Nat) (q : Key × Value), prs[j]? = some q → ∃ b, ps[j]? = some b ∧ IsTup s.heap b #[kf j, q.2] ∧ keyIs q.1 (kf j) = true := fun j q e => by
        have hk : kf j = (hu j q e).choose := by
          show (match e : prs[j]? with | some q => (hu j q e).choose | none => .none) = _
          split
          · rename_i q2 e2
            have : q2 = q := Option.some.inj (e2.symm.trans e)
            subst this
            rfl
          · rename_i e2
            rw [e] at e2; cases e2
        rw [hk]
        exact (hu j q e).choose_spec
      let pv : List (Value × Value) := (List.range prs.length).filterMap fun j => (prs[j]?).map fun q => (kf j, q.2)
      have pvl : ∀ j, pv[j]? = (prs[j]?).map fun q => (kf j, q.2) := fun j => by
        have gen : ∀ n, n ≤ prs.length → ((List.range n).filterMap fun j => (prs[j]?).map fun q => (kf j, q.2)) = (List.range n).map fun j => (kf j, ((prs[j]?).map (·.2)).getD .none) := fun n hn => by
          induction n with
          | zero => rfl
          | succ n ih =>
            have hg : prs[n]? = some prs[n] := List.getElem?_eq_getElem (by omega)
            rw [List.range_succ, List.filterMap_append, ih (by omega), List.map_append]
            simp [hg]
        show ((List.range prs.length).filterMap _)[j]? = _
        rw [gen _ (Nat.le_refl _), List.getElem?_map]
        by_cases hj : j < prs.length
        · rw [List.getElem?_range hj]
          simp [List.getElem?_eq_getElem hj]
        · rw [List.getElem?_eq_none (by rw [List.length_range]; omega), List.getElem?_eq_none (by omega)]; rfl
      have pvn : pv.length = prs.length := by
        have h1 : pv[prs.length]? = none := by rw [pvl, List.getElem?_eq_none (Nat.le_refl _)]; rfl
        have h2 := List.getElem?_eq_none_iff.mp h1
        rcases Nat.lt_or_ge pv.length prs.length with h | h
        · have h3 := pvl pv.length
          rw [List.getElem?_eq_none (Nat.le_refl _), List.getElem?_eq_getElem h] at h3
          cases h3
        · omega
      refine PySem.call_dict_pairs (knd := mixKind X.prog X.w) (kvs := prs) (PairArg.tuple a (ps.map Value.ref).toArray (fun j => ps.getD j 0) pv) (I.ok.hd hc) ⟨⟨_, n, hg, c1, c2, hdat⟩, ?_, fun j k v e => ?_⟩ ⟨by rw [pvn], fun i key v e => ?_⟩ (by rw [pvn, hl]; exact hz) fun h' tk hd' k => ?_
      · show (ps.map Value.ref).toArray.size = _
        rw [List.size_toArray, List.length_map, pvn, hl]
      · rw [pvl] at e
        obtain ⟨q, e1, e2⟩ := Option.map_eq_some_iff.mp e
        injection e2 with e3 e4
        subst e3 e4
        obtain ⟨b, hb, htp, _⟩ := kfs j q e1
        refine ⟨?_, .inl ?_⟩
        · show (ps.map Value.ref).toArray[j]? = _
          rw [List.getElem?_toArray, List.getElem?_map, hb]
          show some (Value.ref b) = some (.ref (ps.getD j 0))
          rw [List.getD_eq_getElem?_getD, hb]; rfl
        · have eb : ps.getD j 0 = b := by rw [List.getD_eq_getElem?_getD, hb]; rfl
          show s.heap.IsTuple (ps.getD j 0) _
          rw [eb]
          exact htp
      · have e : pv[i]? = some (key, v) := e
        rw [pvl] at e
        obtain ⟨q, e1, e2⟩ := Option.map_eq_some_iff.mp e
        injection e2 with e3 e4
        subst e3 e4
        obtain ⟨b, _, _, hk⟩ := kfs i q e1
        exact ⟨q.1, e1, hk⟩
      · have hm : (s.heap.objs.size == sysModules) = false := beq_eq_false_iff_ne.mpr (Nat.ne_of_gt I.big)
        have hlen : (mergeK [] kvs).length ≤ sizeLine := by
          refine Nat.le_trans (length_mergeK kvs []) ?_
          rw [List.length_nil, Nat.zero_add, rel.length, hl]
          exact hz
        exact ⟨.ref s.heap.objs.size, upd H s.heap.objs.size (.dK (mergeK [] kvs)), I.laid (t' := tk) (fun b o e => k b o (fun z => nomatch z) e) (Nat.le_refl _) (show ObjOk X.prog X.w _ _ _ (.dK (mergeK [] kvs)) from ⟨hlen, hm, merged [] prs, KV.merge rel .nil, hd'⟩), rfl, q _ (I.hok.fresh (Nat.le_refl _))⟩
    · exact call_dictP hc pins s σ H [.ref a] us Q I r ⟨a, ps, kvs, rfl, hl, hp, q⟩
    · exact call_dictD pins s σ H [.ref a] us Q I r ⟨a, kvs, rfl, hd, q⟩
end S
namespace S
open PySem PySem.Spec PyProof.Rows L2
/-! ### sorted(list of numbers | list of texts | dict of texts) -/
structure SrtD (K : Frag) (H : Hp) (p : Addr) (Q : VK) : Prop where
  ex : Srt K H p Q ∨ (∃ xs : List Str, SqL K H p (xs.map V.str) ∧ xs.length < 64 ∧ ∀ ys q, ys.Perm xs → sortedS ys = true → H q = none → Q (.ref q) (upd H q (.lst (ys.map V.str)))) ∨
    ∃ (kvs : List (Key × V)) (ks : List Str), L2.Rd H p (.dK kvs) ∧ kvs.map (·.1) = ks.map Sum.inr ∧ ks.length < 64 ∧ ∀ ys q, ys.Perm ks → sortedS ys = true → H q = none → Q (.ref q) (upd H q (.lst (ys.map V.str)))
theorem SrtD.s {K : Frag} {H : Hp} {p : Addr} {Q : VK} {xs : List Str} (h : H p = some (.lst (xs.map V.str))) (l : xs.length < 64) (q : ∀ ys q, ys.Perm xs → sortedS ys = true → H q = none → Q (.ref q) (upd H q (.lst (ys.map V.str)))) : SrtD K H p Q := ⟨.inr (.inl ⟨xs, SqL.of h, l, q⟩)⟩
theorem SrtD.d {K : Frag} {H : Hp} {p : Addr} {Q : VK} {kvs : List (Key × V)} {ks : List Str} (h : L2.Rd H p (.dK kvs)) (hk : kvs.map (·.1) = ks.map Sum.inr) (l : ks.length < 64) (q : ∀ ys q, ys.Perm ks → sortedS ys = true → H q = none → Q (.ref q) (upd H q (.lst (ys.map V.str)))) : SrtD K H p Q := ⟨.inr (.inr ⟨kvs, ks, h, hk, l, q⟩)⟩
def cSortedD (K : Frag) : List V → Hp → VK → Prop := fun xs H Q => match xs with
  | [.ref p] => SrtD K H p Q
  | _ => False
theorem c_sortedD {X : Cx} (hc : X.calm = true) : CallR X (.builtin "sorted") (cSortedD X.K) := by
  intro pins s σ H xs us Q I r h
  match xs, h with
  | [.ref p], ⟨h⟩ =>
    rcases h with h | ⟨ys, h1, h2, q⟩ | ⟨kvs, ks, h1, h2, h3, q⟩
    · exact c_sorted pins s σ H [.ref p] us Q I r h
    · exact cr_sortedS pins s σ H [.ref p] us Q I r ⟨p, ys, rfl, h1, h2, q⟩
    · exact call_sortedD hc pins s σ H [.ref p] us Q I r ⟨p, kvs, ks, rfl, h1, h2, h3, q⟩
/-! ### list(sequence | dict) -/
/-! ### {k: v} -/
/-! ### {k: v for ..} -/
/-! ### for k in d -/
end S
namespace S
open PySem PySem.Spec PyProof.Rows L2
section
variable {X : Cx} {c : Str} {g : Addr} {k : Nat} {sp : Sp} {E : XK}
end
end S
namespace S
open PySem PySem.Spec PyProof.Rows L2
/-- what the written part says of such a def fI of the class c: g the def above -/
structure SupF (P : Program) (K : Frag) (c : Str) (g : Addr) (nm qual : Str) (params : Arguments) (body : List Stmt) (scope : Scope) (fI : Addr) : Prop where
  fn : ∃ oc od osl kV doc pm an cda ct cc, K.lookup fI = some ⟨oc, od, .func (PySem.W.ksFn nm qual params body scope .none kV doc pm an (.ref cda) ct cc), osl⟩ ∧ PySem.W.codeIn K (.ref cda) qual = true ∧
    (∃ cl cld csl, K.lookup cc = some ⟨cl, cld, .cell (some (.ref (He.ga K c))), csl⟩) ∧ ∃ ccl cdd vs ccs file tf, K.lookup cda = some ⟨ccl, cdd, .fields vs, ccs⟩ ∧ vs[2]? = some (.str file tf) ∧ ((P.main.file : Str) == file) = true
  sub : PySem.W.mroIn K (He.ga K c) (.ref (He.ga K c)) = some true
  sup : PySem.W.ks_superIn K (He.ga K c) (He.ga K c) "__init__" = some (some (.ref g))
  tg : PySem.W.typeIn K (.ref g) = some (.type "function")
  fg : PySem.W.fnIn K g = true
  st : PySem.W.nsIn K cStatics "thirdparty.any" = some none
  top : (P.main.scope.names.lookup ("super" : Str)).isSome = false
structure InsC (K : Frag) (H : Hp) (c : Str) (a : Addr) (q : Prop) : Prop where
  ex : ∃ dx fs, H a = some (.ins (He.ga K c) dx fs)
  q : q
theorem InsC.of {K : Frag} {H : Hp} {c : Str} {a dx : Addr} {fs : List (Str × V)} {q : Prop} (h : H a = some (.ins (He.ga K c) dx fs)) (h2 : q) : InsC K H c a q := ⟨⟨dx, fs, h⟩, h2⟩
/-- super().__init__(..), self being the first name -/
def dSup (K : Frag) (c : Str) (sp : Sp) (E : L2.St → XK) (ta : TA) : TS := fun D σ H => onSome (nth σ 0) fun v => match v with
  | .ref a => InsC K H c a (ta σ H fun ws H2 => sp (.ref a :: ws) H2 (fun _ H3 => D.nx σ H3) (E σ))
  | _ => False
/-- the context of such a def's body -/
abbrev cxS (P : Program) (w : World) (K : Frag) (mg : Str → Option Value) (base : Heap) (N : List Str) (F : NdefX.NF) (f : Addr) (A : Around) (outer : List Env) (s : Shared) (H : Hp) (E : XK) : Cx := NdefX.ncx (L2.CX P w) P w K mg base N F f A outer s H E
theorem passS {P : Program} {w : World} {K : Frag} {mg : Str → Option Value} {base : Heap} {N : List Str} {F : NdefX.NF} {f : Addr} {A : Around} {outer : List Env} {s : Shared} {H : Hp} {E : XK} :
    ∀ σ, PassesAt (L2.CX P w) (cxS P w K mg base N F f A outer s H E) σ (EW E σ) := fun σ => passAt (takes_of rfl rfl rfl rfl) σ
theorem startS {N ps : List Str} {vs : List V} (hl : vs.length = ps.length) (hN : ps.length + 1 ≤ N.length) : NdefX.startF N vs [none] = L2.start N vs := by
  unfold NdefX.startF L2.start
  congr 1
  obtain ⟨m, hm⟩ : ∃ m, N.length - vs.length = m + 1 := ⟨N.length - vs.length - 1, by omega⟩
  rw [hm]
  rfl
section
variable {P : Program} {w : World} {K : Frag} {mg : Str → Option Value} {base : Heap} {c nm qual : Str} {params : Arguments} {body rest : List Stmt} {scope : Scope} {fI g : Addr} {p0 p1 p2 p4 p5 : Pos} {e : Expr} {es : List Expr} {N ps : List Str} {self0 : Str} {k : Nat} {sp sp0 : Sp} {ta : XK → TA} {tr : XK → TS} {pl : Env → Sem Bool}
theorem mk_fnS (D : SupF P K c g nm qual params body scope fI) (hms : mg "super" = none) (S : NdefX.NScope N ps ["__class__"] scope) (len : ∀ vs H Q E, sp vs H Q E → vs.length = ps.length)
    (hbind : ∀ (kV doc pm : Value) (an : Option Addr) (cdv ct : Value) (cc : Addr) (us : List Value), us.length = ps.length → bindArgs (PySem.W.ksFn nm qual params body scope .none kV doc pm an cdv ct cc) ⟨us, []⟩ = pure (ps.zip us))
    (FG : FR P w K mg base k g sp0) (hbody : body = .Expr (.Call (.Attribute (.Call (.Name "super" p0) [] [] p1) "__init__" p2) (e :: es) [] p4) p5 :: rest)
    (hp : ∃ ar, (params.posonlyargs ++ params.args).head? = some ar ∧ ar.arg = self0) (hps : ps.head? = some self0) (hks : scope.names.lookup ("super" : Str) = some .globalImplicit)
    (hsw2 : ∀ env, swapsWith (.Call (.Attribute (.Call (.Name "super" p0) [] [] p1) "__init__" p2) (e :: es) [] p4) none p5.line env = pure false)
    (hev : ∀ env, eval (.Call (.Attribute (.Call (.Name "super" p0) [] [] p1) "__init__" p2) (e :: es) [] p4) env = (do
      let ov ← attributeBase (.Call (.Name "super" p0) [] [] p1) "__init__" env (eval (.Call (.Name "super" p0) [] [] p1) env)
      standAt p2.atName
      let (f, first) ← holding [ov] (getMethod ov "__init__" (pl env))
      callWith p4 f first (backTo p4 (starEach (e :: es) env)) []))
    (hst : ∀ env, starEach (e :: es) env = (false, eval e env) :: starEach es env) (hpl : ∀ env, (backTo p4 (starEach es env)).any (·.1) = false)
    (hb : ∀ (cda cc : Addr) (A : Around) (outer : List Env) (s : Shared) (H : Hp) (E : XK), Room k (A.deeper (NdefX.envF ⟨nm, qual, params, body, scope, [("__class__", cc)], cda⟩ fI s.heap.objs.size)) →
      PA (cxS P w K mg base N ⟨nm, qual, params, body, scope, [("__class__", cc)], cda⟩ fI A outer s H E) (e :: es) (ta E) ∧ PSs (cxS P w K mg base N ⟨nm, qual, params, body, scope, [("__class__", cc)], cda⟩ fI A outer s H E) rest (tr E))
    (pure : ∀ vs H Q E, sp vs H Q E → tSeq (dSup K c sp0 (EW E) (ta E)) (tr E) { nx := fun _ H' => Q .non H', rt := Q } (start N vs) H) : FR P w K mg base (k + 1) fI sp := by
  intro A outer s H us vs Q E hr e0 r hsp
  have hl := len _ _ _ _ hsp
  obtain ⟨oc, od, osl, kV, doc, pm, an, cda, ct, cc, lk, hcd, ⟨cl, cld, csl, lc⟩, ccl, cdd, fvs, ccs, file, tf, lcd, hvs, hfile⟩ := D.fn
  have KX : K.In s.heap := e0.mod.kin.keeps fun b o e => (e0.bs b o e).1
  have lim : s.heap.NoLimit := e0.mod.nolimit.keeps fun b o e => (e0.bs b o e).1
  have hq := pure vs H Q E hsp
  have hNl : ps.length + 1 ≤ N.length := by
    have q := congrArg List.length S.pre
    rw [List.length_take, List.length_append] at q
    simp at q
    omega
  have hcc0 : H cc = none := (e0.bs _ _ (e0.mod.kin _ _ lc)).2
  have hC : NdefX.CellsAt [("__class__", cc)] ["__class__"] [none] s.heap H := by
    refine ⟨rfl, fun y c' hy => ?_, fun x y c' h1 h2 => ?_, fun i y hi => ?_⟩
    · have := PySem.mem_of_lookup hy
      have : (y, c') = (("__class__" : Str), cc) := by simpa using this
      cases this
      exact ⟨hcc0, _, _, KX _ _ lc, rfl⟩
    · have e1 : (x, c') = (("__class__" : Str), cc) := by simpa using PySem.mem_of_lookup h1
      have e2 : (y, c') = (("__class__" : Str), cc) := by simpa using PySem.mem_of_lookup h2
      cases e1
      cases e2
      rfl
    · cases i with
      | zero =>
        cases hi
        exact ⟨cc, rfl, fun v z => by cases z⟩
      | succ i => simp at hi
  obtain ⟨ar, har, har2⟩ := hp
  obtain ⟨mb, hmb, hbt⟩ := e0.mod.blt
  have hul : us.length = ps.length := by rw [← r.length]; exact hl
  have hself : scope.names.lookup self0 = some .local := S.par _ (by cases ps with | nil => cases hps | cons a b => cases hps; exact List.mem_cons_self ..)
  have hkc : scope.names.lookup ("__class__" : Str) = some .free := S.frk _ (List.mem_cons_self ..)
  subst hbody
  refine PySem.ks_codeAny_call_defAt (binds := ps.zip us) hr.depth (KX _ _ lk) rfl lim (PySem.W.codeRec_of KX hcd) rfl (BindsTo.of_eq (hbind _ _ _ _ _ _ _ _ hul)) S.nocell (fun y hy => S.par _ (List.of_mem_zip hy).1) (fun h₁ hns keep => ?_) S.co S.gen S.kind
  have I := NdefX.inv_startN (CX := L2.CX P w) (P := P) (w := w) (K := K) (mg := mg) (base := base) (f := fI) (E := E) (tk := s.toks + (ps.zip us).length) (F := ⟨nm, qual, params, .Expr (.Call (.Attribute (.Call (.Name "super" p0) [] [] p1) "__init__" p2) (e :: es) [] p4) p5 :: rest, scope, [("__class__", cc)], cda⟩) S hr.hd e0 hl r hC hns keep
  rw [startS hl hNl] at I
  obtain ⟨hpa, hrest⟩ := hb cda cc A outer s H E (hr.deeper _)
  have hX := hrest
  -- self
  obtain ⟨v0, vr, rfl⟩ : ∃ v0 vr, vs = v0 :: vr := by
    cases vs with
    | nil => cases ps with | nil => cases hps | cons a b => cases hl
    | cons v0 vr => exact ⟨v0, vr, rfl⟩
  cases v0 with
  | ref a =>
    have hq : InsC K H c a (ta E (L2.start N (.ref a :: vr)) H fun ws H2 => sp0 (.ref a :: ws) H2 (fun _ H3 => tr E { nx := fun _ H' => Q .non H', rt := Q } (L2.start N (.ref a :: vr)) H3) E) := hq
    obtain ⟨⟨dx, fs, ha⟩, hq⟩ := hq
    cases r with
    | @cons _ u0 _ ur ra rv =>
      obtain rfl : u0 = Value.ref a := ra
      have K1 : K.In h₁ := KX.keeps keep
      have g1 : h₁.Ns mainGlobals mg := e0.mod.glob.keeps fun b o e => keep b o (e0.bs b o e).1
      have b1 : h₁.Ns builtinsNs mb := hmb.keeps fun b o e => keep b o (e0.bs b o e).1
      have hlk : (ps.zip (Value.ref a :: ur)).reverse.lookup self0 = some (Value.ref a) := by
        have ndP : ps.Nodup := by
          have q := S.nd.sublist (List.take_sublist (ps.length + 1) N)
          have e : N.take (ps.length + 1) = ps ++ [("__class__" : Str)] := S.pre
          rw [e] at q
          exact (List.nodup_append.mp q).1
        exact NdefX.zip_look (i := 0) ndP (by cases ps with | nil => cases hps | cons a b => cases hps; rfl) rfl
      obtain ⟨mA, O, _, _, _, _⟩ := ins_get e0.hok ha
      obtain ⟨oda, J, _⟩ := O.look
      have ho := J.at_
      obtain ⟨oD, cdD, hC1, hcl2, hcl, hal⟩ : ∃ oD cdD, h₁.get? (He.ga K c) = some oD ∧ oD.data = .cls cdD ∧ PySem.W.clsIn K (He.ga K c) = some cdD ∧ PySem.W.alongIn K "__init__" ((cdD.mro.dropWhile (· != .ref (He.ga K c))).drop 1) = some (some (.ref g)) := by
        have hm := D.sup
        unfold PySem.W.ks_superIn at hm
        cases hc : PySem.W.clsIn K (He.ga K c) with
        | none => rw [hc] at hm; cases hm
        | some cd =>
          rw [hc] at hm
          have hc2 := hc
          unfold PySem.W.clsIn at hc2
          split at hc2
          · rename_i c' d' cd' sl' lo
            cases hc2
            exact ⟨_, _, K1 _ _ lo, rfl, rfl, hm⟩
          · cases hc2
      obtain ⟨og, hog, hogc⟩ : ∃ og, K.lookup g = some og ∧ og.cls = .type "function" := by
        have ht' : (K.lookup g).map (·.cls) = some (.type "function") := D.tg
        cases z : K.lookup g with
        | none => rw [z] at ht'; cases ht'
        | some og => rw [z] at ht'; exact ⟨og, rfl, Option.some.inj ht'⟩
      refine PySem.ks_wpAt_execs_cons (PySem.ks_wpAt_Expr_any (hi := by unfold interactive; show (scope.kind == _ && _) = false; rw [S.kind]; rfl) (hs := hsw2 _) (PySem.ks_wpAt_MethodCall (he := hev _) (PySem.ks_wpAt_super_base hks hkc (by decide) rfl (K1 _ _ lk) rfl har rfl (K1 _ _ lcd) rfl hvs hfile D.top ?_)))
      rw [har2]
      refine PySem.W.ks_loadName_global S.kind hks (Calls.loadGlobal_builtin g1 hms b1 ((hbt "super" (by decide)).trans (by decide +kernel : bootBuiltins ("super" : Str) = some (.type "super"))) ⟨rfl, ?_⟩)
      refine wpAny_loadName_free S.kind hkc rfl ⟨_, K1 _ _ lc, rfl⟩ ?_
      refine wpAny_loadName_local S.kind hself hns hlk ?_
      obtain ⟨sh, sg, sd, stk, sos⟩ := s
      refine PySem.ks_wpAny_isType_cls hC1 hcl2 ⟨rfl, ?_⟩
      refine PySem.ks_wpAny_call_super hC1 hcl2 (keep _ _ ho) rfl (fun c z => nomatch z) (PySem.W.looks_mroIn K1 D.sub) fun h2 hso kp2 => ?_
      have I2 := I.kept (t' := stk + (ps.zip (Value.ref a :: ur)).length) kp2
      have K2 : K.In h2 := K1.keeps kp2
      have J2 : PySem.W.InstAt h2 a _ (He.ga K c) (some oda) := ⟨kp2 _ _ (keep _ _ J.at_), J.cls, J.no, kp2 _ _ (keep _ _ J.dict)⟩
      refine PySem.ks_wpAny_getMethod_super hso (PySem.W.looks_opaque K2 D.st) (l₀ := cdD.mro) (fun A Q E s k q => wpAny_bind ((PySem.W.looks_clsIn K2 hcl) A _ E s k (wpAny_pure q))) rfl K2 hal (K2 _ _ hog) hogc (PySem.W.ks_ne K2 J2 hcl) (by decide) ?_
      have I3 := I2.kept (t' := stk + (ps.zip (Value.ref a :: ur)).length + 1) (h' := h2.push (PySem.W.methodObj (.ref g) (.ref a))) (fun b u e => Heap.get?_push_of_some _ e)
      have hbm : (h2.push (PySem.W.methodObj (.ref g) (.ref a))).get? h2.objs.size = some (PySem.W.methodObj (.ref g) (.ref a)) := Heap.get?_push_at rfl rfl
      have I4 := I3.pins_of (pins' := [(h2.objs.size, PySem.W.methodObj (.ref g) (.ref a))]) (fun p hp => by
        rw [List.mem_singleton.mp hp]
        refine ⟨hbm, I2.hok.fresh (Nat.le_refl _), fun z => ?_, I2.nofs (Nat.le_refl _), fun v z => by cases z⟩
        have := I2.lt
        exact absurd this (by rw [← z]; exact Nat.lt_irrefl _))
      rw [hst]
      refine PySem.W.callWith_of (P := PySem.W.MethP K h2.objs.size g (.ref a)) (by show ((false || (backTo p4 (starEach es _)).any (·.1)) || false) = false; rw [hpl]; rfl) (PySem.W.keeps_M D.fg) (Calls.evalArgs_plain ?_)
      have hrun := hpa.run p4 _ _ _ _ _ I4 hq
      rw [hst] at hrun
      refine thn hrun fun us2 s2 ⟨ws, H2, I5, r2, q2⟩ => ⟨⟨(I5.pin _ (List.mem_append_right _ (List.mem_cons_self ..))).1, I5.kIn⟩, ?_⟩
      refine wpAny_call (PySem.ks_codeAny_call_bound (I5.pin _ (List.mem_append_right _ (List.mem_cons_self ..))).1 (codeAny_mono (FG _ _ _ _ _ _ _ (hr.deeper _) I5.env0 (vs := V.ref a :: ws) (.cons (show L2.RelV (V.ref a) (Value.ref a) from rfl) r2) q2) fun rr s3 hr3 => ?_))
      cases rr with
      | error er => exact passS (L2.start N (.ref a :: vr)) _ _ _ _ _ I5 hr3
      | ok fl =>
        cases fl with
        | ret u =>
          obtain ⟨v3, H3, I6, _, q3⟩ := I5.after hr3
          have I7 := I6.pins_of (pins' := []) (fun p hp => absurd hp (by simp))
          show _root_.PySem.wpAt _ _ _ (execs rest _) _ _ _
          refine wpAt_of_wpAny (wpAny_mono (hrest.run [] s3 _ _ _ I7 q3) (fun fl s4 hs => ?_) fun e s4 hs => hs)
          have fin : ∀ {F : NdefX.NF} {s0 : Shared} {σ' : L2.St} {H' : Hp} {v : V} {u : Value}, Inv (cxS P w K mg base N F fI A outer s0 H E) [] σ' H' s4 → RelV v u → Q v H' → CE outer P w H s0 Q u s4 :=
            fun {F s0 σ' H' v u} J rv q => ⟨v, H', J.os, J.bare, J.base, J.hok, rv, q⟩
          cases fl with
          | ret u =>
            obtain ⟨v, σ', H', J, rv, q⟩ := hs
            exact fin J rv q
          | next =>
            obtain ⟨σ', H', J, q⟩ := hs
            exact fin (v := V.non) (u := Value.none) J rfl q
          | brk =>
            obtain ⟨_, _, _, q⟩ := hs
            exact False.elim q
          | cont =>
            obtain ⟨_, _, _, q⟩ := hs
            exact False.elim q
        | next => exact False.elim hr3
        | brk => exact False.elim hr3
        | cont => exact False.elim hr3
  | _ => exact (show False from hq).elim
end
/-! ### such a def in the head -/
theorem sup_of {P : Program} {K : Frag} {c up nm qual : Str} {params : Arguments} {body : List Stmt} {scope : Scope} (e : fnX K (He.fAd K (c, some "__init__")) = some (nm, qual, params, .stmts body, scope, mainGlobals, [(("__class__" : Str), (0 : Addr))], builtinsNs)) (h : supB P c up K = true) :
    SupF P K c (He.fAd K (up, some "__init__")) nm qual params body scope (He.fAd K (c, some "__init__")) := by
  obtain ⟨h1, h⟩ := He.ba h
  obtain ⟨h2, h⟩ := He.ba h
  obtain ⟨h3, h⟩ := He.ba h
  obtain ⟨h4, h⟩ := He.ba h
  obtain ⟨h5, h⟩ := He.ba h
  obtain ⟨h6, h7⟩ := He.ba h
  unfold fnX at e
  unfold fnB at h1
  cases lk : K.lookup (He.fAd K (c, some "__init__")) with
  | none => rw [lk] at e; cases e
  | some o =>
    rw [lk] at e h1
    obtain ⟨oc, od, dat, osl⟩ := o
    cases dat <;> try cases e
    rename_i fd
    obtain ⟨k1, k0⟩ := He.ba h1
    obtain ⟨kd, k2⟩ := He.ba k0
    obtain ⟨n1, n2, n3, n4, n5, n6, n7, n8, n9, n10, n11, n12, n13, n14, n15⟩ := fd
    simp only [Option.some.injEq, Prod.mk.injEq] at e
    obtain ⟨e1, e2, e3, e4, e5, e6, e7, e8⟩ := e
    subst e1 e2 e3 e4 e5 e6 e8
    dsimp only at k1 k2 kd
    have hdn : n8 = Value.none := by
      rcases He.dflB_ok kd with ⟨_, z⟩ | ⟨z, _⟩
      · exact z
      · exact absurd rfl z
    subst hdn
    obtain ⟨cda, nmc, cc, ec, eclo, h3', h4'⟩ := cloB_ok k2
    subst ec eclo
    have enm : nmc = "__class__" := by simpa using e7
    subst enm
    exact ⟨⟨oc, od, osl, _, _, _, _, cda, _, cc, lk, k1, cellTo_ok h3', codeFile_ok h4'⟩, of_decide_eq_true h2, He.eqO_ok h3, of_decide_eq_true h4, h5, of_decide_eq_true h6, by simpa using h7⟩
end S
namespace S
open PySem PySem.Spec PyProof.Rows L2
/-- each class of cs has the method m with its promise -/
def DynF (P : Program) (w : World) (K : Frag) (mg : Str → Option Value) (base : Heap) (k : Nat) (cs : List Str) (m : Str) (sp : Str → Sp) : Prop := ∀ c ∈ cs, Cls K (He.ga K c) ∧ ∃ g, Meth K (He.ga K c) m g ∧ FR P w K mg base k g (sp c)
structure DynM (K : Frag) (H : Hp) (cs : List Str) (m : Str) (a : Addr) (q : Str → Prop) : Prop where
  ex : ∃ c ∈ cs, ∃ dx fs, H a = some (.ins (He.ga K c) dx fs) ∧ fs.lookup m = none ∧ q c
theorem DynM.of {K : Frag} {H : Hp} {cs : List Str} {m c : Str} {a dx : Addr} {fs : List (Str × V)} {q : Str → Prop} (hc : c ∈ cs) (h : H a = some (.ins (He.ga K c) dx fs)) (h2 : q c) (l : fs.lookup m = none := by rfl) : DynM K H cs m a q := ⟨⟨c, hc, dx, fs, h, l, h2⟩⟩
def dDyn (K : Frag) (cs : List Str) (m : Str) (sp : Str → Sp) (E : L2.St → XK) (ta : TE) (t : TA) : TE := fun σ H Q => ta σ H fun x H1 => match x with
  | .ref a => DynM K H1 cs m a fun c => t σ H1 fun ws H2 => sp c (.ref a :: ws) H2 Q (E σ)
  | _ => False
def dDyn0 (K : Frag) (cs : List Str) (m : Str) (sp : Str → Sp) (E : L2.St → XK) (ta : TE) : TE := fun σ H Q => ta σ H fun x H1 => match x with
  | .ref a => DynM K H1 cs m a fun c => sp c [.ref a] H1 Q (E σ)
  | _ => False
section
variable {X : Cx} {k : Nat} {cs : List Str} {sp : Str → Sp} {E : L2.St → XK} {x m : Str} {p pos apos : Pos} {e o : Expr} {es : List Expr} {t : TA} {ta : TE}
theorem pe_dyn {pl : Sem Bool} (D : DynF X.prog X.w X.K X.mg X.base k cs m sp) (hr : Room k X.A) (hx : ∀ σ, PassesAt (L2.CX X.prog X.w) X σ (E σ)) (he : PE X o ta) (ha : PA X (e :: es) t)
    (hst : starEach (e :: es) X.env = (false, eval e X.env) :: starEach es X.env := by rfl) (hpl : (backTo pos (starEach es X.env)).any (·.1) = false := by rfl)
    (ht : eval (.Call (.Attribute o m apos) (e :: es) [] pos) X.env = (do
      let ov ← eval o X.env
      standAt apos.atName
      let (f, first) ← holding [ov] (getMethod ov m pl)
      callWith pos f first (backTo pos (starEach (e :: es) X.env)) (backToKw pos (keywordEach [] X.env))) := by rfl) :
    PE X (.Call (.Attribute o m apos) (e :: es) [] pos) (dDyn X.K cs m sp E ta t) := by
  refine ⟨fun pins s σ H Q I h => ?_⟩
  refine PySem.W.methodCall_KW (pl := pl) (thn (he.run pins s σ H _ I h) fun u s1 ⟨x, H1, I1, rx, q⟩ => ?_) ht
  cases x <;> try exact q.elim
  cases rx
  obtain ⟨⟨c, hc, dx, fs, ea, l, q⟩⟩ := q
  obtain ⟨hcl, g, hm, F⟩ := D c hc
  refine getmeth_ok I1 ea hcl hm l ?_
  refine PySem.W.callWith_K (first := [.ref _]) (h₀ := X.base) I.ok.mod.kin hm.kp (thn (ha.run pos pins s1 σ H1 _ I1 q) fun us s2 ⟨ws, H2, I2, r, q2⟩ => ⟨I2.kIn, ?_⟩) hst hpl
  exact run_R (sp := sp c) F hr (hx σ) I2 (.cons (show L2.RelV (V.ref _) (Value.ref _) from rfl) r) q2
theorem pe_dyn0 {pl : Sem Bool} (D : DynF X.prog X.w X.K X.mg X.base k cs m sp) (hr : Room k X.A) (hx : ∀ σ, PassesAt (L2.CX X.prog X.w) X σ (E σ)) (he : PE X o ta)
    (ht : eval (.Call (.Attribute o m apos) [] [] pos) X.env = (do
      let ov ← eval o X.env
      standAt apos.atName
      let (f, first) ← holding [ov] (getMethod ov m pl)
      callWith pos f first (backTo pos (starEach [] X.env)) (backToKw pos (keywordEach [] X.env))) := by rfl) :
    PE X (.Call (.Attribute o m apos) [] [] pos) (dDyn0 X.K cs m sp E ta) := by
  refine ⟨fun pins s σ H Q I h => ?_⟩
  refine PySem.W.methodCall_KW (pl := pl) (thn (he.run pins s σ H _ I h) fun u s1 ⟨x, H1, I1, rx, q⟩ => ?_) ht
  cases x <;> try exact q.elim
  cases rx
  obtain ⟨⟨c, hc, dx, fs, ea, l, q⟩⟩ := q
  obtain ⟨hcl, g, hm, F⟩ := D c hc
  refine getmeth_ok I1 ea hcl hm l ?_
  refine PySem.W.callWith_K0 (first := [.ref _]) I1.kIn hm.kp ?_
  exact run_R (sp := sp c) F hr (hx σ) I1 (.cons (show L2.RelV (V.ref _) (Value.ref _) from rfl) .nil) q
end
theorem FR.none {P : Program} {w : World} {K : Frag} {mg : Str → Option Value} {base : Heap} {k : Nat} {f : Addr} {sp : Sp} (h : ∀ vs H Q E, ¬ sp vs H Q E) : FR P w K mg base k f sp := fun _ _ _ _ _ _ _ _ _ _ _ hs => (h _ _ _ _ hs).elim
end S
namespace S
open PySem PySem.Spec PyProof.Rows L2
section
open PySem.W
variable {prog : Program} {w : World} {A : Around} {E : Value → Shared → Prop} {s : Shared} {K : Frag} {x y C C2 L f f2 : Addr} {h₀ : Heap} {m : Str → Option Value} {ox oy : Obj} {od oe : Option Obj}
/-- a op b, instances of two classes that both have the method, neither the reflected one -/
theorem binop_two {op : Operator} {Q : Value → Shared → Prop} (F : Fr h₀ L s.heap m) (X₀ : K.In h₀) (I : InstAt s.heap x ox C od) (I2 : InstAt s.heap y oy C2 oe) (hne : C ≠ C2) (hc : selfFirst K C = true) (hc2 : selfFirst K C2 = true)
    (hs : findIn K (.ref C) (PySem.dunder op.info.2) = some (some (.ref f))) (hf : isFn K (.ref f) = true) (hs2 : findIn K (.ref C2) (PySem.dunder op.info.2) = some (some (.ref f2))) (hr : findIn K (.ref C) (dunderR op.info.2) = some none) (hr2 : findIn K (.ref C2) (dunderR op.info.2) = some none)
    (hsub : subIn K (.ref C2) (.ref C) = some false)
    (h : wpAny (model prog w) A (call (.ref f) [.ref x, .ref y]) (PySem.W.CmpBack Q) E s) : wpAny (model prog w) A (binaryOp op (.ref x) (.ref y)) Q E s := by
  have X := X₀.keeps F.keep
  obtain ⟨cd, rest, hcd, hm⟩ := ksp_first hc
  obtain ⟨cd2, rest2, hcd2, hm2⟩ := ksp_first hc2
  rcases hi : op.info with ⟨sym, nm'⟩
  rw [hi] at hs hs2 hr hr2
  dsimp only at hs hs2 hr hr2
  have one := ksp_try X I hs hf h
  obtain ⟨hh, g, d, tt, os⟩ := s
  have L1 : Looks (model prog w) hh (typeOf (.ref x)) (.ref C) := I.type
  have L2 : Looks (model prog w) hh (typeOf (.ref y)) (.ref C2) := I2.type
  have L3 : Looks (model prog w) hh (fillsNumberSlot (.ref C) nm') true := fills_K X hcd hm hs
  have L4 : Looks (model prog w) hh (fillsNumberSlot (.ref C2) nm') true := fills_K X hcd2 hm2 hs2
  have L5 : Looks (model prog w) hh (isSubtype (.ref C2) (.ref C)) false := looks_subIn X hsub
  have L6 : Looks (model prog w) hh (numberSlotInPython (.ref C) nm') true := ksp_inPy X hs hr (.inl rfl)
  have L7 : Looks (model prog w) hh (numberSlotInPython (.ref C2) nm') true := ksp_inPy X hs2 hr2 (.inl rfl)
  have hne' : (Value.ref C == Value.ref C2) = false := Bool.eq_false_iff.mpr fun q => hne (by cases beq_iff_eq.mp q; rfl)
  simp only [binaryOp, hi]
  refine wpAny_holding (wpAny_bind ?_)
  unfold binaryOp1
  refine wpAny_bind (L1.at (wpAny_bind (L2.at (wpAny_bind (L3.at ?_)))))
  simp only [hne', Bool.false_eq_true, if_false]
  ksp_lk
  refine wpAny_mono one (fun r s' hr' => ?_) fun _ _ e => e
  obtain ⟨v, rfl, hq⟩ := hr'
  ksp_lk
  exact hq
end
structure NfF (K : Frag) (cs : List Str) (nm : String) : Prop where
  ex : ∀ c ∈ cs, PySem.W.selfFirst K (He.ga K c) = true ∧ PySem.W.findIn K (.ref (He.ga K c)) (dunderR nm) = some none ∧ ∀ d ∈ cs, He.ga K c = He.ga K d ∨ PySem.W.subIn K (.ref (He.ga K d)) (.ref (He.ga K c)) = some false
theorem nfB_ok {K : Frag} {cs : List Str} {nm : String} (h : nfB cs nm K = true) : NfF K cs nm := ⟨fun c hc => by
  obtain ⟨h1, h⟩ := He.ba (List.all_eq_true.mp h c hc)
  obtain ⟨h2, h3⟩ := He.ba h
  refine ⟨h1, He.eqO_ok h2, fun d hd => ?_⟩
  rcases Bool.or_eq_true_iff.mp (List.all_eq_true.mp h3 d hd) with h | h
  · exact .inl (of_decide_eq_true h)
  · exact .inr (of_decide_eq_true h)⟩
structure InsM (K : Frag) (H : Hp) (cs : List Str) (a : Addr) (q : Prop) : Prop where
  ex : ∃ c ∈ cs, ∃ dx fs, H a = some (.ins (He.ga K c) dx fs)
  q : q
theorem InsM.of {K : Frag} {H : Hp} {cs : List Str} {c : Str} {a dx : Addr} {fs : List (Str × V)} {q : Prop} (hc : c ∈ cs) (h : H a = some (.ins (He.ga K c) dx fs)) (h2 : q) : InsM K H cs a q := ⟨⟨c, hc, dx, fs, h⟩, h2⟩
def oDynB (K : Frag) (cs : List Str) (m : Str) (sp : Str → Sp) (E : XK) (r : R2) : R2 := fun x y H Q => match x, y with
  | .ref a, .ref b => DynM K H cs m a fun c => InsM K H cs b (sp c [.ref a, .ref b] H Q E)
  | x, y => r x y H Q
def uDyn (K : Frag) (cs : List Str) (m : Str) (sp : Str → Sp) (E : XK) : V → Hp → VK → Prop := fun x H Q => match x with
  | .ref a => DynM K H cs m a fun c => sp c [.ref a] H Q E
  | _ => False
section
variable {X : Cx} {k : Nat} {cs : List Str} {sp : Str → Sp} {E : XK} {m : Str}
theorem op_dynB {op : Operator} {r : R2} (nf : NfF X.K cs op.info.2) (D : DynF X.prog X.w X.K X.mg X.base k cs (PySem.dunder op.info.2) sp) (hr : Room k X.A) (hx : ∀ σ, PassesAt (L2.CX X.prog X.w) X σ E) (h0 : OpR X (binaryOp op) r) : OpR X (binaryOp op) (oDynB X.K cs (PySem.dunder op.info.2) sp E r) := by
  intro pins s σ H x y v u Q I rx ry q
  have own : ∀ a b, x = .ref a → y = .ref b → (DynM X.K H cs (PySem.dunder op.info.2) a fun c => InsM X.K H cs b (sp c [.ref a, .ref b] H Q E)) → wpAny (model X.prog X.w) X.A (binaryOp op v u) (EP X pins σ Q) X.xe s := by
    intro a b ex ey q
    subst ex ey
    cases rx
    cases ry
    obtain ⟨⟨c, hc, dx, fs, ha, _, ⟨⟨d, hd, dy, gs, hb⟩, q⟩⟩⟩ := q
    obtain ⟨hcl, g, hm, F⟩ := D c hc
    obtain ⟨mA, O, _, _, _, _⟩ := ins_get I.hok ha
    obtain ⟨od, J, _⟩ := O.look
    obtain ⟨mB, O', _, _, _, _⟩ := ins_get I.hok hb
    obtain ⟨od', J', _⟩ := O'.look
    obtain ⟨m, hF⟩ := I.fr
    obtain ⟨nf1, nf2, nf3⟩ := nf.ex c hc
    obtain ⟨nd1, nd2, _⟩ := nf.ex d hd
    obtain ⟨_, g2, hm2, _⟩ := D d hd
    have run : wpAny (model X.prog X.w) X.A (call (.ref g) [.ref a, .ref b]) (PySem.W.CmpBack (EP X pins σ Q)) X.xe s := by
      refine wpAny_mono (run_op (us := [.ref a, .ref b]) (vs := [.ref a, .ref b]) F hr I.env0 hx I (.cons rfl (.cons rfl .nil)) q) (fun w s' z => ?_) fun _ _ x => x
      obtain ⟨z', H', I', rz, qz⟩ := z
      exact SlX.cmpback rz ⟨z', H', I', rz, qz⟩
    by_cases e : He.ga X.K c = He.ga X.K d
    · rw [← e] at J'
      exact PySem.W.binop_K hF I.ok.mod.kin J J'.type nf1 hm.at_ hm.fn run
    · exact binop_two hF I.ok.mod.kin J J' e nf1 nd1 hm.at_ hm.fn hm2.at_ nf2 nd2 ((nf3 d hd).resolve_left e) run
  cases x <;> cases y <;> first | exact own _ _ rfl rfl q | exact h0 pins s σ H _ _ v u Q I rx ry q
theorem u_invDyn (D : DynF X.prog X.w X.K X.mg X.base k cs "__invert__" sp) (hr : Room k X.A) (hx : ∀ σ, PassesAt (L2.CX X.prog X.w) X σ E) : UnR X (unaryOp .Invert) (uDyn X.K cs "__invert__" sp E) := by
  intro pins s σ H x v Q I rx q
  cases x <;> try exact q.elim
  cases rx
  obtain ⟨⟨c, hc, dx, fs, ha, _, q⟩⟩ := q
  obtain ⟨hcl, g, hm, F⟩ := D c hc
  obtain ⟨mA, O, _, _, _, _⟩ := ins_get I.hok ha
  obtain ⟨od, J, _⟩ := O.look
  obtain ⟨m, hF⟩ := I.fr
  exact PySem.W.ksp_inv hF I.ok.mod.kin J hm.at_ hm.fn (run_op (us := [.ref _]) (vs := [.ref _]) F hr I.env0 hx I (.cons rfl .nil) q)
end
end S
namespace S
open PySem PySem.Spec PyProof.Rows L2
structure IsT (x y : V) (k : Bool → Prop) : Prop where
  ex : (∃ a b, x = .bl a ∧ y = .bl b ∧ k (decide (a = b))) ∨ (x = .non ∧ (∃ b, y = .bl b) ∧ k false)
theorem IsT.bl {a b : Bool} {k : Bool → Prop} (q : k (decide (a = b))) : IsT (.bl a) (.bl b) k := ⟨.inl ⟨a, b, rfl, rfl, q⟩⟩
theorem IsT.non {b : Bool} {k : Bool → Prop} (q : k false) : IsT .non (.bl b) k := ⟨.inr ⟨rfl, ⟨b, rfl⟩, q⟩⟩
def oIsT : R2 := fun x y H Q => IsT x y fun b => Q (.bl b) H
theorem o_isT {X : Cx} : OpR X (compareOp .Is) oIsT := by
  intro pins s σ H x y v u Q I rx ry h
  rcases h.ex with ⟨a, b, rfl, rfl, hq⟩ | ⟨rfl, ⟨b, rfl⟩, hq⟩
  · exact op_isBl pins s σ H _ _ v u Q I rx ry ⟨_, _, rfl, rfl, hq⟩
  · cases rx
    cases (show u = Value.bool b from ry)
    exact wpAny_is_other rfl (fun z => by cases z) ⟨.bl false, H, I, rfl, hq⟩
end S
namespace S
open PySem PySem.Spec PyProof.Rows L2
end S
namespace S
open PySem PySem.Spec PyProof.Rows L2
section
variable {X : Cx} {k : Nat} {g : Addr} {sp : Sp} {E : XK} {c : Str} {ups : List Str} {tys : List String}
end
/-! ### tuple displays as tracked tuples -/
/-! ### dicts whose keys are tuples -/
theorem DG.t {H : Hp} {a b : Addr} {kvs : List (List Key × V)} {ks : List Key} {v : V} {k : V → Prop} (e : L2.Rd H a (.dT kvs)) (eb : H b = some (.tup (ks.map kV))) (l : valV kvs ks = some v) (q : k v) : DG H a (.ref b) k := ⟨v, .inr ⟨kvs, ks, b, e, rfl, eb, l.symm⟩, q⟩
theorem StD.t {H : Hp} {a b : Addr} {kvs : List (List Key × V)} {ks : List Key} {v : V} {k : Hp → Prop} (e : H a = some (.dT kvs)) (eb : H b = some (.tup (ks.map kV))) (hl : kvs.length < sizeLine) (q : k (upd H a (.dT (putK kvs ks v)))) : StD H a (.ref b) v k := ⟨_, DPut.t e eb hl, q⟩
end S
namespace S
open PySem PySem.Spec PyProof.Rows L2
section
variable {X : Cx} {k : Nat} {g : Addr} {sp : Sp} {E : L2.St → XK} {c : Str} {ups : List Str} {tys : List String}
end
/-! i | j of numbers -/
def oOr : R2 := oI0 fun i j => Builtin.bitOr i j
theorem o_or {X : Cx} : OpR X (binaryOp .BitOr) oOr := oI0_of op_or
end S
namespace S
open PySem PySem.Spec PyProof.Rows L2
section
variable {P : Program} {w : World} {K : Frag} {mg : Str → Option Value} {base : Heap} {CX : CXT} {c fld fld2 nm qual par par2 msg : Str} {params : Arguments} {body : List Stmt} {scope : Scope} {fI : Addr} {fd : FuncData} {p0 p1 p2 p3 p4 p5 p6 p7 p8 p9 q6 q7 q8 q9 : Pos} {j : Nat}
end
end S
namespace S
open PySem PySem.Spec PyProof.Rows L2
end S
namespace S
open PySem PySem.Spec PyProof.Rows L2
end S
namespace S
open PySem PySem.Spec PyProof.Rows L2
end S
namespace S
open PySem PySem.Spec PyProof.Rows L2
end S
namespace S
open PySem PySem.Spec PyProof.Rows L2
end S
namespace S
open PySem PySem.Spec PyProof.Rows L2
end S
namespace S
open PySem PySem.Spec PyProof.Rows L2
section
variable {P : Program} {w : World} {A : Around} {E : Value → Shared → Prop} {s : Shared}
/-- the set at a holds the texts l, each once -/
structure TxS (P : Program) (w : World) (h : Heap) (a : Addr) (l : List Str) : Prop where
  ex : ∃ D : Froz.SD, h.get? a = some (Froz.sObj "set" D) ∧ Froz.TxOk P w D l ∧ Ris D.2.2.place.toList ∧ (w.params.followText "set-order" = true ∨ D.2.2.led = true)
  nd : l.Nodup
theorem TxS.at {h h' : Heap} {a : Addr} {l : List Str} (R : TxS P w h a l) (k : ∀ o, h.get? a = some o → h'.get? a = some o) : TxS P w h' a l := let ⟨⟨D, h1, h2⟩, nd⟩ := R; ⟨⟨D, k _ h1, h2⟩, nd⟩
theorem tail_place {ep : Nat} {es : Array (Int × Value)} {t : SetTable} {b : Bool} (r : Ris t.place.toList) : Ris (Froz.tailTx ep es t b).2.2.place.toList := by
  unfold Froz.tailTx
  split
  · exact relayAll_ris t es _
  · exact r
theorem tail_led {ep : Nat} {es : Array (Int × Value)} {t : SetTable} {b : Bool} : (Froz.tailTx ep es t b).2.2.led = t.led := by
  unfold Froz.tailTx
  split
  · exact relayAll_led t es _
  · rfl
theorem addTx_place {D : Froz.SD} {h : Int} {v : Value} (r : Ris D.2.2.place.toList) : Ris (Froz.addTx h v D).2.2.place.toList := by
  unfold Froz.addTx
  refine tail_place ?_
  have := layNew_ris D.2.2 D.1 h v r
  split <;> exact this
theorem addTx_led {D : Froz.SD} {h : Int} {v : Value} : (Froz.addTx h v D).2.2.led = D.2.2.led := by
  unfold Froz.addTx
  rw [tail_led]
  have := layNew_led D.2.2 D.1 h v
  split <;> exact this
def addL1 (l : List Str) (k : Str) : List Str := if k ∈ l then l else k :: l
/-- one text more -/
theorem txs_add {S : Addr} {l : List Str} {k : Str} {t : Tok} {Q : Bool → Shared → Prop} (R : TxS P w s.heap S l) (hb : l.length + 1 < scanBound)
    (h : ∀ b h', (∀ c, c ≠ S → h'.get? c = s.heap.get? c) → TxS P w h' S (addL1 l k) → Q b { s with heap := h' }) : wpAny (model P w) A (setAddHashed S (.str k t) (hashStr w k)) Q E s := by
  obtain ⟨⟨D, ho, F, hr, hl⟩, nd⟩ := R
  by_cases hk : k ∈ l
  · have e : addL1 l k = l := if_pos hk
    rw [e] at h
    obtain ⟨es, ep, tb⟩ := D
    have sz : es.size = l.length := F.sz
    have is_ : (strKind P w).is k (.str k t) = true := Froz.is_str k t
    have el : ElemsOf (strKind P w) es.toList := F.el
    obtain ⟨e0, he0, hi0⟩ := (F.mem k).mp hk
    obtain ⟨j, hj⟩ : ∃ j, List.findIdx? (fun e => (strKind P w).is k e.2) es.toList = some j := by
      cases c : List.findIdx? (fun e => (strKind P w).is k e.2) es.toList with
      | some j => exact ⟨j, rfl⟩
      | none =>
        have := List.findIdx?_eq_none_iff.mp c e0 he0
        rw [hi0] at this; cases this
    unfold setAddHashed setAddHashedIn
    refine wpAny_holding (wpAny_bind (wpAny_setState_of ho (es := es) (ep := ep) (t := tb) rfl F.fit ?_))
    dsimp only
    rw [byScan_of (knd := strKind P w) rfl (by omega) el]
    simp only [↓reduceIte]
    unfold setAddByScan
    refine wpAny_bind (wpAny_bind (wpAny_rule ?_))
    refine wpAny_bind (wpAny_setScan_of (knd := strKind P w) (k := k) is_ ho (es := es) (ep := ep) (t := tb) rfl F.fit el ?_)
    rw [hj]
    exact wpAny_pure (wpAny_pure (h false s.heap (fun _ _ => rfl) ⟨⟨_, ho, F, hr, hl⟩, nd⟩))
  · have e : addL1 l k = k :: l := if_neg hk
    rw [e] at h
    refine Froz.add_x ho F hk hb (h true _ (fun c hc => Heap.get?_update_other _ _ (Ne.symm hc)) ⟨⟨_, Froz.get_upd _ ho rfl, Froz.add_ok t F, addTx_place hr, hl.imp id fun z => by rw [addTx_led]; exact z⟩, List.nodup_cons.mpr ⟨hk, nd⟩⟩)
def addN (ks : List Str) : List Str := ks.foldl addL1 []
theorem addN_step {ks : List Str} {i : Nat} {k : Str} (h : ks[i]? = some k) : addN (ks.take (i + 1)) = addL1 (addN (ks.take i)) k := by
  unfold addN
  rw [List.take_succ, h, List.foldl_append]; rfl
theorem foldl_addL : ∀ (ks l : List Str), (∀ z, z ∈ ks.foldl addL1 l ↔ z ∈ l ∨ z ∈ ks) ∧ (ks.foldl addL1 l).length ≤ l.length + ks.length
  | [], l => ⟨fun z => ⟨.inl, fun h => h.elim id fun h => nomatch h⟩, Nat.le_refl _⟩
  | k :: ks, l => by
    obtain ⟨h1, h2⟩ := foldl_addL ks (addL1 l k)
    have m : ∀ z, z ∈ addL1 l k ↔ z ∈ l ∨ z = k := fun z => by
      unfold addL1
      split
      · rename_i hk
        exact ⟨.inl, fun h => h.elim id fun e => e ▸ hk⟩
      · rw [List.mem_cons]; exact Or.comm
    refine ⟨fun z => ?_, ?_⟩
    · rw [List.foldl_cons, h1, m, List.mem_cons, or_assoc]
    · have : (addL1 l k).length ≤ l.length + 1 := by unfold addL1; split <;> simp
      rw [List.foldl_cons, List.length_cons]; omega
theorem addN_mem (ks : List Str) (z : Str) : z ∈ addN ks ↔ z ∈ ks := by
  unfold addN
  rw [(foldl_addL ks []).1]
  exact ⟨fun h => h.elim (fun h => nomatch h) id, .inr⟩
theorem addN_len (ks : List Str) : (addN ks).length ≤ ks.length := by have := (foldl_addL ks []).2; unfold addN; simpa using this
/-- set.update over texts -/
theorem set_update_strs {I : Addr} {fp wr : List Addr} {G : Array GenState → Array GenState → Prop} {n : Nat} {Pv : Nat → Value → Prop} {St : Nat → Shared → Prop} {R : Result → Shared → Prop}
    (W : WalksS P w A.in1 I fp wr G n Pv St) (S : Addr) (hSf : S ∉ fp) (ks : List Str) (hn : n = ks.length) (hfew : ks.length + 1 < scanBound) (hval : ∀ i v, Pv i v → ∃ k t, ks[i]? = some k ∧ v = .str k t)
    (h0 : Heap) (hS0 : h0.get? S = none) (hw0 : ∀ b ∈ wr, h0.get? b = none) :
    ∀ (m i : Nat) (s : Shared), n - i = m → i ≤ n → St i s → (∀ b o, h0.get? b = some o → s.heap.get? b = some o) → TxS P w s.heap S (addN (ks.take i)) →
      (∀ s', Moved (S :: wr) G s s' → TxS P w s'.heap S (addN ks) → (∀ b o, h0.get? b = some o → s'.heap.get? b = some o) → R (.ok (.ret .none)) s') →
      codeAny (model P w) A (.builtin "set.update.loop" ⟨[.ref S, .ref I], []⟩) R s := by
  have hSw : S ∉ wr := fun h => hSf (W.sub _ h)
  have hsub : ∀ b ∈ wr, b ∈ S :: wr := fun b hb => List.mem_cons_of_mem _ hb
  have keepM : ∀ {s s' : Shared}, Moved wr G s s' → (∀ b o, h0.get? b = some o → s.heap.get? b = some o) → ∀ b o, h0.get? b = some o → s'.heap.get? b = some o := fun hm hkp b o e =>
    hm.heap b o (fun hb => by rw [hw0 b hb] at e; cases e) (hkp b o e)
  intro m
  induction m with
  | zero =>
    intro i s hm' hi hst hkp hS hR
    have hin : i = ks.length := by omega
    refine codeAny_builtin F.entry_set_update_loop ?_
    rw [Around.under_plainId F.plain_set_update_loop _]
    show wpAny _ A.in1 (pyNext (.ref I) >>= _) _ _ s
    refine wpAny_bind (W.done s _ _ (show St n s from by rw [hn, ← hin]; exact hst) fun s' hm => ?_)
    show wpAny _ A.in1 (ret Value.none) _ _ s'
    rw [hin, List.take_length] at hS
    exact wpAny_pure (hR s' (hm.mono hsub) (hS.at fun o e => hm.heap S o hSw e) (keepM hm hkp))
  | succ m ih =>
    intro i s hm' hi hst hkp hS hR
    have hlt : i < n := by omega
    refine codeAny_builtin F.entry_set_update_loop ?_
    rw [Around.under_plainId F.plain_set_update_loop _]
    show wpAny _ A.in1 (pyNext (.ref I) >>= _) _ _ s
    refine wpAny_bind (W.item i s _ _ hlt hst fun v s' hP hst' hm => ?_)
    obtain ⟨x, t, hx, rfl⟩ := hval i v hP
    have hkp' := keepM hm hkp
    have hS' : TxS P w s'.heap S (addN (ks.take i)) := hS.at fun o e => hm.heap S o hSw e
    show wpAny _ A.in1 (holding [Value.str x t] (setAdd S (.str x t)) >>= _) _ _ s'
    refine wpAny_bind (wpAny_holding ?_)
    unfold setAdd
    refine wpAny_holding (wpAny_bind ((strKind P w).pyHash (k := x) (Froz.is_str x t) ?_))
    have l1 := addN_len (ks.take i)
    rw [List.length_take] at l1
    refine txs_add (s := { s' with toks := s'.toks + 1 }) hS' (by omega) fun bb h' hsb hS2 => ?_
    rw [← addN_step hx] at hS2
    have hkp2 : ∀ b o, h0.get? b = some o → h'.get? b = some o := fun b o e => (hsb b (fun z => by rw [z, hS0] at e; cases e)).trans (hkp' b o e)
    refine wpAny_pure ⟨plainId_quiet F.plain_set_update_loop _, ih (i + 1) _ (by omega) hlt (W.frame _ s' _ _ hst' (Nat.le_succ _) fun b hb o e => ?_) hkp2 hS2 fun s'' hm'' hS'' hkp'' => ?_⟩
    · rw [hsb b (fun h : b = S => hSf (by rw [← h]; exact hb))]; exact e
    · refine hR s'' (Moved.trans W.gtrans ((hm.mono hsub).then_heap (Nat.le_succ _) fun b o hb e => ?_) hm'') hS'' hkp''
      rw [hsb b (fun h : b = S => hb (by rw [h]; exact List.mem_cons_self))]; exact e
theorem txs_fresh {h : Heap} : TxS P w (h.push { cls := .type "set", dict := none, data := .set #[] 0 (.fresh 0 0 (!w.params.followText "set-order")) }) h.objs.size [] := by
  obtain ⟨o, es, ep, t, ho, _, hd, _, _, _, _, hf, _, hr, hl⟩ := setR_fresh (h := h) w
  rw [Heap.get?_push_size _ rfl] at ho
  cases ho
  cases hd
  exact ⟨⟨(#[], 0, .fresh 0 0 (!w.params.followText "set-order")), Heap.get?_push_size _ rfl, Froz.TxOk.nil hf, hr, hl⟩, .nil⟩
set_option maxHeartbeats 8000000 in
theorem call_set_strs {l : Addr} {items : Array Value} (ks : List Str) {Q : Value → Shared → Prop} (hh : A.handled = none) (hl : s.heap.IsList l items) (hit : StrsAre items.toList ks) (hfew : ks.length + 1 < scanBound)
    (h : ∀ (h' : Heap) (tk : Nat), TxS P w h' s.heap.objs.size (addN ks) → (∀ b o, s.heap.get? b = some o → h'.get? b = some o) → Q (.ref s.heap.objs.size) { s with heap := h', toks := tk }) :
    wpAny (model P w) A (call (.type "set") [.ref l]) Q E s := by
  have hisz : items.size = ks.length := by
    have q := StrsAre.length hit
    rw [Array.length_toList] at q
    exact q
  obtain ⟨c, tl, hmro⟩ := F.called_set.mro
  have hmade := F.called_set.made
  have hsub := F.called_set.sub
  refine wpAny_call (codeAny_of_tree ?_)
  show wpAny _ _ (callAny (.type "set") _) _ _ _
  refine wpAny_pure ⟨Code.quiet_builtin _ (by decide +kernel), codeAny_builtin F.entry_type_call ?_⟩
  rw [Around.under_plain (weight_type_call_type "set" [.ref l] []) rfl]
  have h1 := F.called_set.notType
  have h2 := F.called_set.canCreate
  have hct := F.typeCall_set_1 (.ref l)
  repeat (any_goals (first | assumption | wp_step))

  refine codeAny_mono (code_set_led1 (.ref l) (E := E) (Q₁ := fun obj s₁ => obj = .ref s.heap.objs.size ∧ s₁ = { s with heap := s.heap.push { cls := .type "set", dict := none, data := .set #[] 0 (.fresh 0 0 (!w.params.followText "set-order")) } }) ⟨rfl, rfl⟩) fun r s₁ hr => ?_
  cases r with
  | error e => exact hr
  | ok fl =>
    cases fl with
    | ret obj =>
      obtain ⟨rfl, rfl⟩ := hr
      have hS : (s.heap.push { cls := .type "set", dict := none, data := .set #[] 0 (.fresh 0 0 (!w.params.followText "set-order")) }).get? s.heap.objs.size = some { cls := .type "set", dict := none, data := .set #[] 0 (.fresh 0 0 (!w.params.followText "set-order")) } := Heap.get?_push_size _ rfl
      have hT : Shared.TypeIs { s with heap := s.heap.push { cls := .type "set", dict := none, data := .set #[] 0 (.fresh 0 0 (!w.params.followText "set-order")) } } (.ref s.heap.objs.size) "set" := ⟨_, hS, rfl⟩
      have hli := F.called_set.init.lookup
      have hbi := F.called_set.init.bind (.ref s.heap.objs.size)
      repeat (any_goals (first | assumption | wp_step))

      refine codeAny_mono (codeAny_call_builtin (R := wants (fun r s₂ => r = .none ∧ ∃ h' tk, s₂ = { s with heap := h', toks := tk } ∧ TxS P w h' s.heap.objs.size (addN ks) ∧
          (∀ b o, s.heap.get? b = some o → h'.get? b = some o)) E) F.called_set.init.plain F.entry_set_init (check_set_init_1 hT ?_)) fun r₂ s₂ hr₂ => ?_
      · obtain ⟨ol, hol, hcl, nl, hdl⟩ := hl
        obtain ⟨ocls, odict, odata, oslots⟩ := ol
        simp only at hcl hdl
        subst hcl; subst hdl
        have hol' : (s.heap.push { cls := .type "set", dict := none, data := .set #[] 0 (.fresh 0 0 (!w.params.followText "set-order")) }).get? l = some { cls := .type "list", dict := odict, data := .seq items nl, slots := oslots } := Heap.get?_push_of_some _ hol
        have hsls := F.sub_list_set
        have hslf := F.sub_list_frozenset
        have hne : (Value.type "list" == Value.type "dict") = false := by decide
        have hl1 : (s.heap.push { cls := .type "set", dict := none, data := .set #[] 0 (.fresh 0 0 (!w.params.followText "set-order")) }).IsList l items := ⟨_, hol', rfl, nl, rfl⟩
        unfold Builtin.«set.__init__» noKeywords Builtin.Frozenset.updateFrom
        generalize hPI : pyIter = PI
        wp_walk
        subst hPI

        refine wpAny_pyIter_list hl1 ?_
        refine wpAny_bind (wpAny_runValue ?_)
        have hlS : l < s.heap.objs.size := Heap.lt_size hol
        have hh3 : A.in1.in1.in1.handled = none := by simp [hh]
        have hneI : l ≠ (s.heap.push { cls := .type "set", dict := none, data := .set #[] 0 (.fresh 0 0 (!w.params.followText "set-order")) }).objs.size := by
          rw [Heap.size_push]; exact Nat.ne_of_lt (Nat.lt_succ_of_lt hlS)
        have hSf : s.heap.objs.size ∉ [(s.heap.push { cls := .type "set", dict := none, data := .set #[] 0 (.fresh 0 0 (!w.params.followText "set-order")) }).objs.size, l] := by
          rw [Heap.size_push]; simp only [List.mem_cons, List.mem_singleton, List.not_mem_nil, or_false, not_or]
          exact ⟨Nat.ne_of_lt (Nat.lt_succ_self _), Nat.ne_of_gt hlS⟩
        have hval : ∀ (i : Nat) (v : Value), items[i]? = some v → ∃ k t, ks[i]? = some k ∧ v = .str k t := fun i v hv => by
          have q : items.toList[i]? = some v := by rw [Array.getElem?_toList]; exact hv
          have gen : ∀ {us : List Value} {ys : List Str}, StrsAre us ys → ∀ (i : Nat) (v : Value), us[i]? = some v → ∃ k t, ys[i]? = some k ∧ v = Value.str k t := by
            intro us ys h
            induction h with
            | nil => intro i v h; simp at h
            | cons k t _ ih =>
              intro i v h
              cases i with
              | zero => rw [List.getElem?_cons_zero] at h; cases h; exact ⟨_, _, rfl, rfl⟩
              | succ i => rw [List.getElem?_cons_succ] at h ⊢; exact ih i v h
          exact gen hit i v q
        have none_of : ∀ b, s.heap.objs.size ≤ b → s.heap.get? b = none := fun b hb => by
          cases q : s.heap.get? b with
          | none => rfl
          | some o => exact absurd (Nat.lt_of_lt_of_le (Heap.lt_size q) hb) (Nat.lt_irrefl _)
        refine set_update_strs ((Walks.list hh3 _ l hneI items).toS) s.heap.objs.size
          hSf ks hisz hfew hval s.heap (none_of _ (Nat.le_refl _)) (fun b hb => none_of b (by
            rw [List.mem_singleton.mp hb, Heap.size_push]
            exact Nat.le_succ _)) (items.size - 0) 0 _ (by omega) (Nat.zero_le _)
          ⟨⟨_, Heap.get?_push_size _ rfl, rfl, rfl⟩, (hl1.push _)⟩ (fun b o e => Heap.get?_push_of_some _ (Heap.get?_push_of_some _ e)) ?hS0 ?hR
        case hS0 =>
          rw [List.take_zero]
          exact (txs_fresh (h := s.heap)).at fun o e => Heap.get?_push_of_some _ e
        case hR =>
          intro s' hm hS' hkp
          obtain ⟨h', g2, d', tk', os'⟩ := s'
          have eg : g2 = s.gens := hm.gens
          have ed : d' = s.drawn := hm.drawn
          have eo : os' = s.os := hm.os
          subst eg; subst ed; subst eo
          show wpAny _ _ _ _ _ _
          refine wpAny_pure ?_
          show wpAny _ _ (ret Value.none) _ _ _
          exact wpAny_pure ⟨rfl, h', tk', rfl, hS', hkp⟩

      · cases r₂ with
        | error e => exact hr₂
        | ok fl₂ =>
          cases fl₂ with
          | ret r =>
            obtain ⟨rfl, h', tk, rfl, hS', hk'⟩ := hr₂
            repeat (any_goals (first | assumption | wp_step))
            exact h _ _ hS' hk'
          | _ => exact hr₂.elim
    | _ => exact hr.elim
theorem perm_sub {α : Type} [DecidableEq α] : ∀ (l L : List α), l.Nodup → (∀ z ∈ l, z ∈ L) → L.length = l.length → L.Perm l
  | [], L, _, _, h => by rw [List.eq_nil_of_length_eq_zero h]
  | x :: l, L, nd, h, hl => by
    obtain ⟨n1, n2⟩ := List.nodup_cons.mp nd
    have hx := h x (List.mem_cons_self ..)
    refine (List.perm_cons_erase hx).trans (.cons x (perm_sub l (L.erase x) n2 (fun z hz => ?_) ?_))
    · exact (List.mem_erase_of_ne (fun e => n1 (by rw [← e]; exact hz))).mpr (h z (List.mem_cons_of_mem _ hz))
    · have := List.length_erase_of_mem hx
      rw [List.length_cons] at hl
      omega
theorem txs_strs {D : Froz.SD} {l : List Str} (F : Froz.TxOk P w D l) : (∀ v ∈ D.1.toList.map (·.2), ∃ x t, v = Value.str x t) ∧ (l.Nodup → ((D.1.toList.map (·.2)).map strOf).Perm l) := by
  have sh : ∀ v ∈ D.1.toList.map (·.2), ∃ x t, v = Value.str x t := fun v hv => by
    obtain ⟨e, he, rfl⟩ := List.mem_map.mp hv
    obtain ⟨⟨k, h1, _⟩, _⟩ := F.el e he
    obtain ⟨t, ht⟩ := Value.isStrOf_shape (x := k) (v := e.2) h1
    exact ⟨k, t, ht⟩
  refine ⟨sh, fun nd => perm_sub l _ nd (fun z hz => ?_) ?_⟩
  · obtain ⟨e, he, hi⟩ := (F.mem z).mp hz
    obtain ⟨t, ht⟩ := Value.isStrOf_shape (x := z) (v := e.2) hi
    exact List.mem_map.mpr ⟨e.2, List.mem_map.mpr ⟨e, he, rfl⟩, by rw [ht]; rfl⟩
  · rw [List.length_map, List.length_map, Array.length_toList]; exact F.sz
theorem sorted_txs {a : Addr} {l : List Str} {Q : Value → Shared → Prop} (R : TxS P w s.heap a l) (hh : A.handled = none) (h64 : l.length < 64)
    (hQ : ∀ s' p (out : Array Value) (c : Nat) (ys : List Str), (∀ b o, s.heap.get? b = some o → s'.heap.get? b = some o) → s'.gens = s.gens → s'.os = s.os → s.heap.objs.size ≤ p →
      s'.heap.get? p = some (seqObj "list" out c) → StrsAre out.toList ys → ys.Perm l → sortedS ys = true → Q (.ref p) s') :
    wpAny (model P w) A (call (.builtin "sorted") [.ref a]) Q E s := by
  obtain ⟨⟨D, ho, F, hr, hl⟩, nd⟩ := R
  have sz : D.1.size = l.length := F.sz
  obtain ⟨sh, pm⟩ := txs_strs F
  have sb : (64 : Nat) ≤ scanBound := by decide
  refine Calls.call_function_entry PyProof.Rows.kind_sorted PyProof.Rows.plain_sorted PyProof.Rows.entry_sorted (PyProof.Rows.args_sorted1 _) ?_
  unfold Builtin.«sorted»
  refine wpAny_bind (m := checkCount "sorted" 1 1 _) (wpAny_pure ?_)
  refine wpAny_bind (collect_set (A := A.in1) hh (es := D.1) (ep := D.2.1) (t := D.2.2) ⟨_, ho, rfl, rfl⟩ F.fit (by omega) hr hl fun s1 vs k1 hz g1 o1 pv => ?_)
  have hvl : vs.length = l.length := by rw [pv.length_eq, List.length_map, Array.length_toList]; exact sz
  have hS : StrsAre vs (vs.map strOf) := strsAre_map vs fun v hv => sh v (pv.mem_iff.mp hv)
  have ps : (vs.map strOf).Perm l := (pv.map strOf).trans (pm nd)
  refine wpAny_bind (wpAny_newList ?_ (by rw [hvl, sizeLine_eq]; omega))
  have hoL : (s1.heap.push (seqObj "list" vs.toArray 0)).get? s1.heap.objs.size = some (seqObj "list" vs.toArray 0) := Heap.get?_push_size _ rfl
  refine wpAny_bind (wpAny_holding (wpAny_call_entry PyProof.Rows.slot_list_sort ⟨_, hoL, rfl⟩ PyProof.Rows.entry_list_sort
    (list_sort_treeK strKind_oneLt hoL hS.keysOf (fun v₁ v₂ rest e => keyKind_strs (by rw [← e]; exact hS)) (by rw [hvl]; exact h64) fun st' hp hs => ⟨_, rfl, ?_⟩)
    (PyProof.Rows.args_list_sort _)))
  obtain ⟨ys, g1', g2, g3⟩ := sorted_out_str hS hp hs
  obtain ⟨c, hc⟩ := sortedHeap_at (vs := vs) (out := ((arrOf st').map (·.2))) hoL
  refine wpAny_pure ⟨_, rfl, hQ _ s1.heap.objs.size _ c ys (fun b u e => ?_) g1 o1 hz hc g1' (g2.trans ps) g3⟩
  have q := k1 b u e
  have hlt := Heap.lt_size q
  show (sortedHeap (s1.heap.push (seqObj "list" vs.toArray 0)) s1.heap.objs.size vs _).get? b = some u
  rw [sortedHeap_old (Nat.ne_of_lt hlt) (by rw [size_push']; exact Nat.lt_succ_of_lt hlt)]
  exact Heap.get?_push_of_some _ q
end
section
variable {X : Cx}
def TxO (P : Program) (w : World) (a : Addr) (l : List Str) : HO := .ext fun h => TxS P w h a l
def rSetS (K : Frag) (P : Program) (w : World) : List V → Hp → VK → Prop := fun xs H Q => ∃ (l : Addr) (ks : List Str), xs = [V.ref l] ∧ SqL K H l (ks.map V.str) ∧ ks.length + 1 < scanBound ∧ ∀ a, H a = none → Q (.ref a) (upd H a (TxO P w a (addN ks)))
theorem cr_setS (hc : X.calm = true) : CallR X (.type "set") (rSetS X.K X.prog X.w) := by
  intro pins s σ H xs us Q I r h
  obtain ⟨l, ks, rfl, hl, hf, q⟩ := h
  rw [Vals.ref1 r]
  obtain ⟨its, rv, pl, hz⟩ := I.list hl
  refine call_set_strs (P := X.prog) (w := X.w) ks (I.ok.hd hc) pl.isList (by simpa using strsAre_of rv) hf fun h' tk R k => ?_
  have ok : ObjOk X.prog X.w (upd H s.heap.objs.size (TxO X.prog X.w s.heap.objs.size (addN ks))) h' s.heap.objs.size (TxO X.prog X.w s.heap.objs.size (addN ks)) := by
    obtain ⟨D, hD, _⟩ := R.ex
    exact ⟨R, ⟨_, hD⟩, fun h1 h2 p k => TxS.at p k⟩
  exact ⟨.ref s.heap.objs.size, upd H s.heap.objs.size (TxO X.prog X.w s.heap.objs.size (addN ks)), I.laid (t' := tk) k (Nat.le_refl _) ok, rfl, q _ (I.hok.fresh (Nat.le_refl _))⟩
def rSortedTx (P : Program) (w : World) : List V → Hp → VK → Prop := fun vs H Q => ∃ (a : Addr) (l : List Str), vs = [V.ref a] ∧ H a = some (TxO P w a l) ∧ l.length < 64 ∧
  ∀ (ys : List Str) (p : Addr), ys.Perm l → l.Nodup → sortedS ys = true → H p = none → Q (.ref p) (upd H p (.lst (ys.map V.str)))
theorem cr_sortedTx (hc : X.calm = true) : CallR X (.builtin "sorted") (rSortedTx X.prog X.w) := by
  intro pins s σ H vs us Q I r h
  obtain ⟨a, l, rfl, ha, h64, q⟩ := h
  have R : TxS X.prog X.w s.heap a l := (I.hok a _ ha).1
  rw [Vals.ref1 r]
  refine sorted_txs R (I.ok.hd hc) h64 fun s' p out c ys k g o hp hg hi hm hs => ?_
  have hlen : (ys.map V.str).length ≤ sizeLine := by rw [List.length_map, hm.length_eq, sizeLine_eq]; omega
  have hn : H p = none := I.hok.fresh hp
  have J : Inv X pins σ (upd H p (.lst (ys.map V.str))) { s with heap := s'.heap, gens := s'.gens, drawn := s'.drawn, toks := s'.toks } :=
    I.call (ch := []) (Un.laid k hp hn) (I.hok.laid k hp ⟨hlen, out.toList, c, vals_of_strs hi, hg⟩) (by rw [g]; exact I.bare) (fun _ z => nomatch z)
  have e : s' = { s with heap := s'.heap, gens := s'.gens, drawn := s'.drawn, toks := s'.toks } := by
    cases s'
    cases s
    cases o
    rfl
  rw [e]
  exact ⟨.ref p, _, J, rfl, q ys p hm R.nd hs hn⟩
/-- sorted(set(xs)) of a list of texts -/
structure SSetS (K : Frag) (H : Hp) (p : Addr) (Q : V → Hp → Prop) : Prop where
  ex : ∃ ks D : List Str, SqL K H p (ks.map V.str) ∧ ks.length + 1 < scanBound ∧ D.length < 64 ∧ (∀ z ∈ ks, z ∈ D) ∧ ∀ (ys : List Str) (q : Addr) (H' : Hp), ys.Nodup → sortedS ys = true → (∀ k, k ∈ ys ↔ k ∈ ks) → Same H H' → H q = none → H' q = some (.lst (ys.map V.str)) → Q (.ref q) H'
def dSSetS (K : Frag) (te : TE) : TE := fun σ H Q => te σ H fun x H1 => match x with
  | .ref p => SSetS K H1 p Q
  | _ => False
theorem pe_ssetS {e : Expr} {te : TE} {p1 p2 pos1 pos2 : Pos} (hc : X.calm = true) (h1 : X.mg "sorted" = none) (h2 : X.mg "set" = none) (b1 : bootBuiltins "sorted" = some (.builtin "sorted")) (b2 : bootBuiltins "set" = some (.type "set")) (he : PE X e te) (g1 : Gl X "sorted" := by rfl) (g2 : Gl X "set" := by rfl)
    (hs : starEach [.Call (.Name "set" p2) [e] [] pos2] X.env = (false, eval (.Call (.Name "set" p2) [e] [] pos2) X.env) :: starEach [] X.env := by rfl) (hs2 : starEach [e] X.env = (false, eval e X.env) :: starEach [] X.env := by rfl) :
    PE X (.Call (.Name "sorted" p1) [.Call (.Name "set" p2) [e] [] pos2] [] pos1) (dSSetS X.K te) := by
  have hi : PE X (.Call (.Name "set" p2) [e] [] pos2) (tCB (rSetS X.K X.prog X.w) (tCons (upE te) tNil)) := pe_ct (cr_setS hc) h2 b2 (pa_cons (pe_up he) pa_nil (hs := hs2)) g2 (by decide) (by decide) hs2 rfl
  have ho : PE X (.Call (.Name "sorted" p1) [.Call (.Name "set" p2) [e] [] pos2] [] pos1) (tCB (rSortedTx X.prog X.w) (tCons (tCB (rSetS X.K X.prog X.w) (tCons (upE te) tNil)) tNil)) := pe_cb (cr_sortedTx hc) h1 b1 (pa_cons hi pa_nil (hs := hs)) g1 (by decide) (by decide) hs rfl
  refine PE.of ho fun σ H Q q => ?_
  refine ⟨_, q, fun x H1 q1 => ?_⟩
  cases x <;> try exact q1.elim
  obtain ⟨ks, D, hl, hf, hD, hsub, q2⟩ := q1.ex
  refine ⟨_, ks, rfl, hl, hf, fun a na => ?_⟩
  have lt : (addN ks).Nodup → (addN ks).length < 64 := fun nd => by
    have := nodup_len (addN ks) D nd fun z hz => hsub z ((addN_mem ks z).mp hz)
    omega
  have ndA : (addN ks).Nodup := by
    have gen : ∀ (ks l : List Str), l.Nodup → (ks.foldl addL1 l).Nodup := fun ks => by
      induction ks with
      | nil => intro l h; exact h
      | cons k ks ih =>
        intro l h
        refine ih _ ?_
        unfold addL1
        split
        · exact h
        · rename_i hk; exact List.nodup_cons.mpr ⟨hk, h⟩
    exact gen ks [] .nil
  refine ⟨a, addN ks, rfl, upd_same, lt ndA, fun ys p hp nd hs np => ?_⟩
  have e1 := same_new (o := TxO X.prog X.w a (addN ks)) na
  refine q2 ys p _ (hp.nodup_iff.mpr nd) hs (fun k => (hp.mem_iff).trans (addN_mem ks k)) (e1.trans (same_new np)) ?_ upd_same
  cases e : H1 p with
  | none => rfl
  | some o => rw [e1 _ _ e] at np; cases np
end
end S
namespace S
open PySem PySem.Spec PyProof.Rows L2
end S
namespace S
open PySem PySem.Spec PyProof.Rows L2
/-! ### kinds of keys -/
structure Dk (κ : Type) [DecidableEq κ] where
  kd : ∀ (P : Program) (w : World), KeyKind P w κ
  kv : κ → V
  rel : ∀ P w k u, (kd P w).is k u = true ↔ RelV (kv k) u
  conv : ∀ {P w P' w'} {h : Heap} {a : Addr} {vs : List (κ × Value)}, h.DictOf (kd P w) a vs → h.DictOf (kd P' w') a vs
def obIs : Option Bool → Value → Bool
  | none, .none => true
  | some b, .bool c => decide (c = b)
  | _, _ => false
def obL : Option Bool → Leaf
  | none => .none
  | some b => .num (if b = true then 1 else 0)
def obV : Option Bool → V
  | none => .non
  | some b => .bl b
theorem obIs_leaf {k : Option Bool} {v : Value} (h : obIs k v = true) : Leaf.isOf (obL k) v = true := by
  cases k with
  | none => cases v <;> first | rfl | exact absurd h Bool.false_ne_true
  | some b =>
    cases v <;> try exact absurd h Bool.false_ne_true
    rename_i c
    have e : c = b := of_decide_eq_true h
    subst e
    exact decide_eq_true rfl
theorem obL_inj {a b : Option Bool} (h : obL a = obL b) : a = b := by
  cases a with
  | none => cases b with
    | none => rfl
    | some y => cases h
  | some x => cases b with
    | none => cases h
    | some y => cases x <;> cases y <;> first | rfl | (injection h with h; revert h; decide)
theorem obL_dec (a b : Option Bool) : decide (obL a = obL b) = decide (a = b) := decide_eq_decide.mpr ⟨obL_inj, fun e => by rw [e]⟩
def obH : Option Bool → Int
  | none => reduceHash 0xFCA86420
  | some b => hashInt (if b = true then 1 else 0)
theorem obH_eq (w : World) (k : Option Bool) : (obL k).key.hash w = obH k := by cases k <;> rfl
def obKind (P : Program) (w : World) : KeyKind P w (Option Bool) where
  is := obIs
  hash := obH
  inj := fun v a b ha hb => obL_inj ((leafKind P w).inj v _ _ (obIs_leaf ha) (obIs_leaf hb))
  byValue := fun k v h => (leafKind P w).byValue _ v (obIs_leaf h)
  pyHash := fun hv h => (leafKind P w).pyHash (obIs_leaf hv) (by rw [show (leafKind P w).hash _ = _ from obH_eq w _]; exact h)
  eqBool := fun hu hv h => (leafKind P w).eqBool (obIs_leaf hu) (obIs_leaf hv) (by rw [obL_dec]; exact h)
  «strs» := fun k x t v h => by cases k <;> exact absurd h Bool.false_ne_true
theorem pairs_conv {κ : Type} [DecidableEq κ] {P P' : Program} {w w' : World} {k1 : KeyKind P w κ} {k2 : KeyKind P' w' κ} (e : k1.is = k2.is) {es : List DictEntry} {vs : List (κ × Value)} (h : Pairs k1 es vs) : Pairs k2 es vs := by
  induction h with
  | nil => exact .nil
  | cons a b c ih => exact .cons (by rw [← e]; exact a) b ih
def kB : Dk (Option Bool) where
  kd := obKind
  kv := obV
  rel := fun P w k u => by
    cases k with
    | none => exact ⟨fun h => (by cases u <;> first | rfl | exact absurd h Bool.false_ne_true : u = Value.none), fun h => by rw [show u = Value.none from h]; rfl⟩
    | some b => exact ⟨fun h => (by cases u <;> first | exact congrArg Value.bool (of_decide_eq_true h) | exact absurd h Bool.false_ne_true : u = Value.bool b), fun h => by rw [show u = Value.bool b from h]; exact decide_eq_true rfl⟩
  conv := fun {P w P' w' h a vs} d => let ⟨o, es, ep, h1, h2, h3, h4, h5, h6⟩ := d; ⟨o, es, ep, h1, h2, h3, h4, pairs_conv (k1 := obKind P w) (k2 := obKind P' w') rfl h5, h6⟩
/-- the dict at a -/
def DkO {κ : Type} [DecidableEq κ] (k : Dk κ) (a : Addr) (kvs : List (κ × V)) : HO := .ext fun h => kvs.length ≤ sizeLine ∧ (a == sysModules) = false ∧ ∃ vs, KV kvs vs ∧ ∃ P w, h.DictOf (k.kd P w) a vs
section
variable {κ : Type} [DecidableEq κ] {k : Dk κ} {P : Program} {w : World} {H : Hp} {h : Heap} {a : Addr} {kvs : List (κ × V)} {vs : List (κ × Value)}
end
section
variable {X : Cx} {κ : Type} [DecidableEq κ] {k : Dk κ} {pins : List (Addr × Obj)} {σ : L2.St} {H : Hp} {s : Shared} {a : Addr} {kvs : List (κ × V)} {A : Around} {E : Value → Shared → Prop}
end
/-! ### a new one, of whatever keys -/
/-! ### d.setdefault(y, z): what is there; the heap behind it if nothing is -/
section
variable {X : Cx} {pins : List (Addr × Obj)} {σ : L2.St} {H : Hp} {s : Shared} {a : Addr} {A : Around} {E : Value → Shared → Prop}
end
/-! ### len(d) -/
/-! ### list(d) -/
/-! ### for x in reversed(a) -/
/-! ### d[i], i a number -/
theorem DG.n {H : Hp} {a : Addr} {kvs : List (Key × V)} {i : Int} {v : V} {k : V → Prop} (e : L2.Rd H a (.dK kvs)) (l : valV kvs (.inl i) = some v) (q : k v) : DG H a (.int i) k := ⟨v, dget_k (k := .inl i) e l, q⟩
end S
namespace S
open PySem PySem.Spec PyProof.Rows L2
end S
namespace S
open PySem PySem.Spec PyProof.Rows L2
end S
namespace S
open PySem PySem.Spec PyProof.Rows L2
def SqK (u : Bool) (K : Frag) (H : Hp) (a : Addr) (xs : List V) : Prop := if u then SqT K H a xs else SqL K H a xs
def IsQ (u : Bool) (h : Heap) (l : Addr) (its : Array Value) : Prop := if u then h.IsTuple l its else h.IsList l its
section
variable {X : Cx} {pins : List (Addr × Obj)} {σ : L2.St} {H : Hp} {s : Shared} {u v : Bool} {a b : Addr} {xs ys : List V}
theorem sqk_inv (I : Inv X pins σ H s) (h : SqK u X.K H a xs) : ∃ its : List Value, Vals xs its ∧ IsQ u s.heap a its.toArray := by
  cases u
  · obtain ⟨its, rv, p, _⟩ := I.list h
    exact ⟨its, rv, p.isList⟩
  · obtain ⟨its, rv, p, _⟩ := I.tuple h
    exact ⟨its, rv, p⟩
end
/-! ### a new zip -/
end S
namespace S
open PySem PySem.Spec PyProof.Rows L2
section
variable {prog : Program} {w : World} {A : Around} {E : Value → Shared → Prop} {s : Shared}
theorem collect_Q {u : Bool} {l : Addr} {vs : List Value} {Q : List Value → Shared → Prop} (hl : IsQ u s.heap l vs.toArray) (hz : vs.length ≤ sizeLine)
    (h : Q vs { s with heap := (s.heap.push (seqObj "list" #[] 0)).update s.heap.objs.size (Obj.mapSeq (· ++ vs.toArray)) }) : wpAny (model prog w) A (collect (.ref l)) Q E s := by
  cases u
  · exact collect_list hl h hz
  obtain ⟨o, ho, hc, n, hd⟩ := (show s.heap.IsTuple l vs.toArray from hl)
  unfold collect
  refine wpAny_bind (wpAny_runValue (codeAny_builtin entry_proto_collect' ?_))
  show wpAny _ _ (do again (.builtin "list.__iadd__" ⟨[← newList [], .ref l], []⟩)) _ _ s
  refine wpAny_bind (wpAny_newList (wpAny_pure ⟨Code.quiet_builtin _ (by decide +kernel), codeAny_builtin entry_list_iadd' ?_⟩))
  show wpAny _ _ (Builtin.List.listExtendWith (.ref s.heap.objs.size) (.ref l) (.ref s.heap.objs.size)) _ _ { s with heap := s.heap.push (seqObj "list" #[] 0) }
  unfold Builtin.List.listExtendWith
  have ho2 : (s.heap.push (seqObj "list" #[] 0)).get? l = some o := Heap.get?_push_of_some _ ho
  refine wpAny_bind (wpAny_typeOf (T := "tuple") ⟨o, ho2, hc⟩ ?_)
  have ht : (Value.type "tuple" == Value.type "tuple") = true := by rfl
  rw [if_pos (by rw [ht]; simp)]
  refine wpAny_bind (listItems_at ho2 hd ?_)
  refine wpAny_bind (listItems_at (xs := #[]) (n := 0) (Heap.get?_push_size _ rfl) rfl ?_)
  rw [if_neg (by simp)]
  refine wpAny_bind (listUpdate_at (xs := #[]) (n := 0) (Heap.get?_push_size _ rfl) rfl ?_ (Nat.zero_le _) (by show (#[] ++ vs.toArray).size ≤ sizeLine + 1; simp only [Array.size_append, List.size_toArray, List.length_nil]; omega))
  refine wpAny_pure ?_
  show wpAny (model prog w) A (do
      let o ← load s.heap.objs.size
      match o.data with
      | .seq xs _ => pure xs.toList
      | _ => unsupported "internal:collect") Q E { s with heap := (s.heap.push (seqObj "list" #[] 0)).update s.heap.objs.size (Obj.mapSeq (· ++ vs.toArray)) }
  refine wpAny_bind (wpAny_load (get?_update_seq (Heap.get?_push_size _ rfl) _) ?_)
  show wpAny _ _ (pure ((#[] : Array Value) ++ vs.toArray).toList) Q E _
  rw [show ((#[] : Array Value) ++ vs.toArray).toList = vs by simp]
  exact wpAny_pure h
theorem sorted_Q {u : Bool} {κ : PyProof.Rows.KeyKind} {l : Addr} {vs : List Value} {Q : Value → Shared → Prop} (hl : IsQ u s.heap l vs.toArray) (S : PySem.W.SortsAt prog w A.in1.in1 { s with heap := PySem.W.sortingHeap (PySem.W.copyHeap s.heap vs) (s.heap.objs.size + 1) vs } κ vs) (hL : vs.length ≤ sizeLine)
    (h : Q (.ref (s.heap.objs.size + 1)) { s with heap := sortedAll s.heap vs (PySem.W.sortVals κ false vs vs).toArray }) : wpAny (model prog w) A (call (.builtin "sorted") [.ref l]) Q E s := by
  refine call_function_entry_kw kind_sorted plain_sorted entry_sorted (args_sorted1 _) ?_
  unfold Builtin.«sorted»
  refine wpAny_bind (m := checkCount "sorted" 1 1 _) (wpAny_pure ?_)
  refine wpAny_bind (collect_Q hl hL ?_)
  refine wpAny_bind (wpAny_newList ?_ hL)
  have hsz : ((s.heap.push (seqObj "list" #[] 0)).update s.heap.objs.size (Obj.mapSeq (· ++ vs.toArray))).objs.size = s.heap.objs.size + 1 := by rw [Heap.size_update, size_push']
  show wpAny _ _ _ _ _ { s with heap := PySem.W.copyHeap s.heap vs }
  rw [hsz]
  refine wpAny_bind (wpAny_holding (wpAny_call_entry_kw slot_list_sort ⟨_, PySem.W.copyHeap_at s.heap vs, rfl⟩ entry_list_sort ?body (args_list_sort _)))
  case body =>
    show wpAny (model prog w) A.in1.in1 (Builtin.«list.sort» ⟨[.ref (s.heap.objs.size + 1)], []⟩) _ _ _
    exact PySem.W.list_sort_vals (s := { s with heap := PySem.W.copyHeap s.heap vs }) (PySem.W.copyHeap_at s.heap vs) S hL ⟨_, rfl, wpAny_pure ⟨_, rfl, h⟩⟩
open PySem.W in
theorem sorted_dataQ {β : Type} {vs : List Value} {bs : List β} {enc : β → PyData} {R : Value → β → Prop} {u : Bool} {l : Addr} {Q : Value → Shared → Prop} (hl : IsQ u s.heap l vs.toArray) (e : EachIs R vs bs) (er : EachIs (fun v b => ∃ as, Reads s.heap v (enc b) as) vs bs) (hal : AllAlike (bs.map enc)) (hk : Sortable (bs.map enc)) (hL : bs.length ≤ sizeLine)
    (hu : ∀ b, b ∈ bs → A.units + 2 + (enc b).depth < cLine) (h : ∀ out, out.length = bs.length → EachIs R out (bs.mergeSort (dataLe false enc)) → Q (.ref (s.heap.objs.size + 1)) { s with heap := sortedAll s.heap vs (List.toArray out) }) :
    wpAny (model prog w) A (call (.builtin "sorted") [.ref l]) Q E s := by
  have er2 : EachIs (fun v b => ∃ as, Reads (sortingHeap (copyHeap s.heap vs) (s.heap.objs.size + 1) vs) v (enc b) as) vs bs := er.mono fun _ _ ⟨as, r⟩ => ⟨as, PyProof.Rows.Reads.keeps (fun _ _ => sorting_copy_old) r⟩
  refine sorted_Q hl (SortsAt.data (s := { s with heap := sortingHeap (copyHeap s.heap vs) (s.heap.objs.size + 1) vs }) (each_map (R := fun v d => ∃ as, Reads (sortingHeap (copyHeap s.heap vs) (s.heap.objs.size + 1) vs) v d as) enc er2) hal hk (bound_map hu)) (by rw [e.length]; exact hL) ?_
  exact h _ (by rw [sortVals_length false rfl]; exact e.length) (sortVals_data false e er2 hal)
end
/-! ### pairs (text, number) -/
abbrev Cl2 : Type := Str × Int
def ltC (a b : Cl2) : Bool := if a.1 = b.1 then decide (a.2 < b.2) else decide (a.1.cps.toList < b.1.cps.toList)
def leC (a b : Cl2) : Prop := ltC b a = false
theorem ltC_eq (a b : Cl2) : PySem.W.dataLt (.tuple [.str a.1, .int a.2]) (.tuple [.str b.1, .int b.2]) = ltC a b := PySem.W.DatumOrd.lt_eq (α := Str × Int) a b
theorem cps_inj {x y : Str} (h : x.cps.toList = y.cps.toList) : x = y := by
  cases x; cases y
  congr 1
  exact Array.toList_inj.mp h
theorem leC_iff {a b : Cl2} : leC a b ↔ (a.1 = b.1 ∧ a.2 ≤ b.2) ∨ (a.1 ≠ b.1 ∧ a.1.cps.toList ≤ b.1.cps.toList) := by
  unfold leC ltC
  by_cases h : a.1 = b.1
  · rw [if_pos h.symm]
    simp [h]
  · rw [if_neg fun z => h z.symm]
    simp [h, List.not_lt]
theorem leC_total (a b : Cl2) : leC a b ∨ leC b a := by
  rw [leC_iff, leC_iff]
  by_cases h : a.1 = b.1
  · rcases Int.le_total a.2 b.2 with g | g
    · exact .inl (.inl ⟨h, g⟩)
    · exact .inr (.inl ⟨h.symm, g⟩)
  · rcases List.le_total a.1.cps.toList b.1.cps.toList with g | g
    · exact .inl (.inr ⟨h, g⟩)
    · exact .inr (.inr ⟨fun z => h z.symm, g⟩)
theorem leC_anti {a b : Cl2} (h : leC a b) (g : leC b a) : a = b := by
  rw [leC_iff] at h g
  rcases h with ⟨h, h2⟩ | ⟨h, h2⟩
  · rcases g with ⟨_, g2⟩ | ⟨g, _⟩
    · exact Prod.ext h (by omega)
    · exact absurd h.symm g
  · rcases g with ⟨g, _⟩ | ⟨_, g2⟩
    · exact absurd g.symm h
    · exact absurd (cps_inj (List.le_antisymm h2 g2)) h
theorem leC_trans {a b c : Cl2} (h : leC a b) (g : leC b c) : leC a c := by
  rw [leC_iff] at h g ⊢
  rcases h with ⟨h, h2⟩ | ⟨h, h2⟩
  · rcases g with ⟨g, g2⟩ | ⟨g, g2⟩
    · exact .inl ⟨h.trans g, by omega⟩
    · exact .inr ⟨by rw [h]; exact g, by rw [h]; exact g2⟩
  · rcases g with ⟨g, g2⟩ | ⟨g, g2⟩
    · exact .inr ⟨by rw [← g]; exact h, by rw [← g]; exact h2⟩
    · have t := List.le_trans h2 g2
      by_cases e : a.1 = c.1
      · rw [← e] at g2
        exact absurd (cps_inj (List.le_antisymm h2 g2)) h
      · exact .inr ⟨e, t⟩
/-- the same pairs in order are the same list -/
theorem permC : ∀ {as bs : List Cl2}, as.Perm bs → as.Pairwise leC → bs.Pairwise leC → as = bs
  | [], bs, h, _, _ => (List.nil_perm.mp h).symm
  | a :: as, [], h, _, _ => absurd (List.perm_nil.mp h) (List.cons_ne_nil _ _)
  | a :: as, b :: bs, h, ha, hb => by
    obtain ⟨a1, a2⟩ := List.pairwise_cons.mp ha
    obtain ⟨b1, b2⟩ := List.pairwise_cons.mp hb
    have e : a = b := by
      have m1 : a ∈ b :: bs := h.mem_iff.mp List.mem_cons_self
      have m2 : b ∈ a :: as := h.mem_iff.mpr List.mem_cons_self
      rcases List.mem_cons.mp m1 with e | m1
      · exact e
      · rcases List.mem_cons.mp m2 with e | m2
        · exact e.symm
        · exact leC_anti (a1 b m2) (b1 a m1)
    subst e
    rw [permC (List.perm_cons a |>.mp h) a2 b2]
abbrev RwC : Type := V × Cl2
def leRC (p q : RwC) : Bool := !ltC q.2 p.2
theorem tupLeC : PySem.W.dataLe false (fun b : RwC => .tuple [.str b.2.1, .int b.2.2]) = leRC := by
  funext p q
  show (!PySem.W.dataLt (.tuple [.str q.2.1, .int q.2.2]) (.tuple [.str p.2.1, .int p.2.2])) = _
  rw [ltC_eq]; rfl
theorem each_ofC : ∀ {bs : List RwC} {us : List Value}, Vals (bs.map (·.1)) us → PySem.W.EachIs (fun u (b : RwC) => L2.RelV b.1 u) us bs
  | [], _, .nil => .nil
  | _ :: _, _, .cons h t => .cons h (each_ofC t)
theorem of_eachC : ∀ {bs : List RwC} {us : List Value}, PySem.W.EachIs (fun u (b : RwC) => L2.RelV b.1 u) us bs → Vals (bs.map (·.1)) us
  | [], _, .nil => .nil
  | _ :: _, _, .cons h t => .cons h (of_eachC t)
structure SrtC (K : Frag) (H : Hp) (p : Addr) (Q : VK) : Prop where
  ex : ∃ (u : Bool) (bs : List RwC), SqK u K H p (bs.map (·.1)) ∧ bs.length ≤ 1000000 ∧ (∀ b ∈ bs, ∃ t, b.1 = .ref t ∧ SqT K H t [.str b.2.1, .int b.2.2]) ∧
    ∀ (cs : List RwC) (q : Addr), cs.Perm bs → cs.Pairwise (fun p q => leC p.2 q.2) → H q = none → Q (.ref q) (upd H q (.lst (cs.map (·.1))))
def cSortedC (K : Frag) : List V → Hp → VK → Prop := fun xs H Q => match xs with
  | [.ref p] => SrtC K H p Q
  | _ => False
theorem leRC_trans (a b c : RwC) (h1 : leRC a b = true) (h2 : leRC b c = true) : leRC a c = true := by
  unfold leRC at *
  simp only [Bool.not_eq_true'] at *
  exact leC_trans (show leC a.2 b.2 from h1) (show leC b.2 c.2 from h2)
theorem leRC_total (a b : RwC) : (leRC a b || leRC b a) = true := by
  unfold leRC
  rcases leC_total a.2 b.2 with h | h
  · rw [show ltC b.2 a.2 = false from h]; rfl
  · rw [show ltC a.2 b.2 = false from h]; simp
theorem c_sortedC {X : Cx} (hu : X.A.units + 64 < cLine) : CallR X (.builtin "sorted") (cSortedC X.K) := by
  intro pins s σ H xs us Q I r h
  match xs, h with
  | [.ref p], ⟨u, bs, hs, hz, hb, q⟩ =>
  obtain ⟨its, rv, hl⟩ := sqk_inv I hs
  obtain ⟨c, rfl, ru⟩ := r.one
  cases ru
  have lv := rv.length
  rw [List.length_map] at lv
  have hz2 : bs.length ≤ sizeLine := by rw [sizeLine_eq]; omega
  have er : PySem.W.EachIs (fun v (b : RwC) => ∃ as, Reads s.heap v (.tuple [.str b.2.1, .int b.2.2]) as) its bs := by
    have e := each_ofC rv
    have go : ∀ {us : List Value} {cs : List RwC}, PySem.W.EachIs (fun u (b : RwC) => L2.RelV b.1 u) us cs → (∀ b ∈ cs, b ∈ bs) → PySem.W.EachIs (fun v (b : RwC) => ∃ as, Reads s.heap v (.tuple [.str b.2.1, .int b.2.2]) as) us cs := by
      intro us cs e
      induction e with
      | nil => exact fun _ => .nil
      | cons h t ih =>
        intro hm
        refine .cons ?_ (ih fun b hb => hm b (List.mem_cons_of_mem _ hb))
        obtain ⟨t, et, ht⟩ := hb _ (hm _ List.mem_cons_self)
        exact Dp.reads I _ _ _ (by rw [et]; exact .tup ht (.cons (.str _) (.cons (.int _) .nil))) h
    exact go e fun _ h => h
  refine sorted_dataQ (enc := fun b : RwC => .tuple [.str b.2.1, .int b.2.2]) hl (each_ofC rv) er (PySem.W.AllAlike.of fun b b' => ?_) (.inl fun d hd => ?_) hz2 (fun b hb => ?_) fun out h1 h2 => ?_
  · exact PySem.W.DatumOrd.alike (α := Str × Int) b.2 b'.2
  · obtain ⟨b, hm, rfl⟩ := List.mem_map.mp hd
    exact ⟨.str b.2.1, [.int b.2.2], rfl⟩
  · have hd : (PyData.tuple [.str b.2.1, .int b.2.2]).depth ≤ 8 := by
      simp [PyData.depth, PyData.depthAll]
    omega
  · rw [tupLeC] at h2
    obtain ⟨ep, he'⟩ := PyProof.Rows.sortedAll_at s.heap its out.toArray
    have hp := List.mergeSort_perm bs leRC
    have hlen : ((bs.mergeSort leRC).map (·.1)).length ≤ sizeLine := by
      rw [List.length_map, hp.length_eq]; exact hz2
    refine ⟨.ref _, upd H (s.heap.objs.size + 1) (.lst ((bs.mergeSort leRC).map (·.1))), I.laid (t' := s.toks) (fun _ _ => PyProof.Rows.sortedAll_old) (Nat.le_succ _) ⟨hlen, out, ep, of_eachC h2, he'⟩, rfl, q _ _ hp ?_ (I.hok.fresh (Nat.le_succ _))⟩
    refine (List.pairwise_mergeSort leRC_trans leRC_total bs).imp fun h => ?_
    unfold leRC at h
    unfold leC
    simpa using h
end S
namespace S
open PySem PySem.Spec PyProof.Rows L2
end S
namespace S
open PySem PySem.Spec PyProof.Rows L2
end S
namespace S
open PySem PySem.Spec PyProof.Rows L2
end S
namespace S
open PySem PySem.Spec PyProof.Rows L2
end S
namespace S
open PySem PySem.Spec PyProof.Rows L2
end S
namespace S
open PySem PySem.Spec PyProof.Rows L2
/-! ### for k in EXPR -/
/-! ### d[k] = v -/
inductive PutX (H : Hp) (a : Addr) (i v : V) : Hp → Prop where
  | D {H' : Hp} (h : DPut H a i v H') : PutX H a i v H'
  | B {kvs : List (Option Bool × V)} {k : Option Bool} (e : H a = some (DkO kB a kvs)) (ey : i = obV k) (l : kvs.length < sizeLine) : PutX H a i v (upd H a (DkO kB a (putK kvs k v)))
structure StX (H : Hp) (a : Addr) (i v : V) (k : Hp → Prop) : Prop where
  ex : ∃ H', PutX H a i v H' ∧ k H'
theorem StX.n {H : Hp} {a : Addr} {kvs : List (Key × V)} {i : Int} {v : V} {k : Hp → Prop} (e : H a = some (.dK kvs)) (hl : kvs.length < sizeLine) (q : k (upd H a (.dK (putK kvs (.inl i) v)))) : StX H a (.int i) v k := ⟨_, .D (DPut.k (k := .inl i) e hl), q⟩
theorem StX.b {H : Hp} {a : Addr} {kvs : List (Option Bool × V)} {b : Option Bool} {v : V} {k : Hp → Prop} (e : H a = some (DkO kB a kvs)) (hl : kvs.length < sizeLine) (q : k (upd H a (DkO kB a (putK kvs b v)))) : StX H a (obV b) v k := ⟨_, .B e rfl hl, q⟩
/-! ### d.get(k, x) -/
end S
namespace S
open PySem PySem.Spec PyProof.Rows L2
section
variable {P : Program} {w : World} {K : Frag} {mg : Str → Option Value} {base : Heap}
theorem mk_fnV {x qual pv : Str} {params : Arguments} {body : List Stmt} {scope : Scope} {f : Addr} {fd : FuncData} {N : List Str} {k : Nat} {sp : Sp} (F : FunD K x qual params body scope [] [] f fd) (S : FnScope N [pv] scope) (len : ∀ vs H Q E, sp vs H Q E → vs.length ≤ 1000)
    (h0 : ∀ (kV doc pm : Value) (an : Option Addr) (cdv ct : Value), bindArgs (PySem.W.fnOf x qual params body scope .none kV doc pm an cdv ct) ⟨[], []⟩ = (newTuple [] >>= fun t => pure [(pv, t)]))
    (h1 : ∀ (kV doc pm : Value) (an : Option Addr) (cdv ct r : Value) (rs : List Value), bindArgs (PySem.W.fnOf x qual params body scope .none kV doc pm an cdv ct) ⟨r :: rs, []⟩ = (newTuple (r :: rs) >>= fun t => pure [(pv, t)])) {t : XK → TS}
    (hbody : ∀ (cdv : Value) (A : Around) (outer : List Env) (s : Shared) (H : Hp) (E : XK), Room k (A.deeper (envOfC qual scope s.heap.objs.size f cdv)) →
      PSs (cxD P w K mg base N qual scope f cdv A outer s H E) body (t E))
    (pure : ∀ vs H Q E, sp vs H Q E → ∀ p, H p = none → t E { nx := fun _ H' => Q .non H', rt := Q } (start N [.ref p]) (upd H p (.tup vs))) : FR P w K mg base (k + 1) f sp := by
  obtain ⟨oc, od, dV, kV, doc, pm, an, cdv, ct, osl, rfl, lk, hcd, hD, _⟩ := F.ex
  rcases hD with ⟨_, rfl⟩ | ⟨e, _⟩
  · have z := StX.fn_star (P := P) (w := w) (mg := mg) (base := base) (CX := L2.CX P w) (ps := []) (pv := pv) (k := k) (sp := fun ws H Q E => ∃ p vs H0, ws = [V.ref p] ∧ H0 p = Option.none ∧ H = upd H0 p (.tup vs) ∧ sp vs H0 Q E) lk hcd S StX.cxUp (fun us rest hl => ?_) fun A outer s H vs Q E hr h => ⟨t E, hbody cdv A outer s H E hr, ?_⟩
    · intro A outer s H us vs Q E hr e0 r hs
      exact z A outer s H us vs Q E hr e0 r ⟨[], vs, rfl, rfl, by have := len _ _ _ _ hs; rw [sizeLine_eq]; omega, fun p hp => ⟨p, vs, H, rfl, hp, rfl, hs⟩⟩
    · match us, hl with
      | [], _ =>
        cases rest with
        | nil => exact h0 kV doc pm an cdv ct
        | cons r rs => exact h1 kV doc pm an cdv ct r rs
    · obtain ⟨p, us, H0, rfl, hp, rfl, hs⟩ := h
      exact pure us H0 Q E hs p hp
  · exact absurd rfl e
end
section
variable {X : Cx} {x : Str} {p pos : Pos} {k : Nat} {g : Addr} {sp : Sp} {E : L2.St → XK}
theorem pe_call0 (F : FnR X.prog X.w X.K X.mg X.base (L2.CX X.prog X.w) k g sp) (hr : Room k X.A) (hm : X.mg x = some (.ref g)) (hk : PySem.W.keepIn X.K (.ref g) = true) (hx : ∀ σ, PassesAt (L2.CX X.prog X.w) X σ (E σ))
    (hg : Gl X x := by rfl) (hdb : (x == ("__debug__" : Str)) = false := by decide) :
    PE X (.Call (.Name x p) [] [] pos) (dCall sp E tNil) := by
  refine ⟨fun pins s σ H Q I h => ?_⟩
  refine wpAny_Call_Name_kw (ld_glob I hg hm ?_ hdb)
  exact PySem.W.callWith_K0 I.kIn hk (run_R F hr (hx σ) I .nil h)
end
end S
namespace S
open PySem PySem.Spec PyProof.Rows L2
def nT : Nat := 12
end S


/-! ## short tactics (local rows) -/
open PySem PySem.Spec PyProof.Rows L2 S in
local macro_rules | `(tactic| walk_at "ne") => `(tactic| first | assumption | (apply Ne.symm; assumption) | (apply ne_of_none <;> assumption))
open PySem PySem.Spec PyProof.Rows L2 S in
local macro_rules | `(tactic| walk_at "hp") => `(tactic| first | assumption | exact upd_same | (refine' up_of ?n1 ?h1; (case n1 => walk_at "ne"); (case h1 => walk_at "hp")))
open PySem PySem.Spec PyProof.Rows L2 S in
local macro_rules | `(tactic| walk_at "sx") => `(tactic| first | assumption | exact SameX.refl _ _ | (refine' SameX.put ?h1; (case h1 => walk_at "sx")))
open PySem PySem.Spec PyProof.Rows L2 S in
local macro_rules | `(tactic| walk_at "sl") => `(tactic| first | assumption | (refine' appS ?h1 ?e1; (case h1 => assumption); (case e1 => walk_at "sx")) | (refine' sl_upd ?h1 ?n1; (case n1 => walk_at "ne"); (case h1 => walk_at "sl")))
open PySem PySem.Spec PyProof.Rows L2 S in
local macro_rules | `(tactic| walk_at "st") => `(tactic| first | assumption | (refine' st_upd ?h1 ?n1; (case n1 => walk_at "ne"); (case h1 => walk_at "st")))
open PySem PySem.Spec PyProof.Rows L2 S in
local macro_rules | `(tactic| walk_at "ar") => `(tactic| first | omega | decide | (exact ⟨by decide, by decide⟩) | (exact ⟨by decide, by decide, by decide⟩) | (simp only [CDiv, CPow, CMul]; omega) | (exact .inl (by omega)) | (exact .inr (by omega)) | (simp only [sizeLine_eq, List.length_map, List.length_cons, List.length_nil, List.length_append, List.length_reverse]; omega))
open PySem PySem.Spec PyProof.Rows L2 S in
local macro_rules | `(tactic| walk_at "rd") => `(tactic| first
  | (refine' Rd.l ?h1 ?h2; (case h1 => walk_at "hp"))
  | (refine' Rd.sl ?h1 ?h2; (case h1 => walk_at "sl"))
  | (refine' Rd.st ?h1 ?h2; (case h1 => walk_at "st"))
  | (refine' Rd.sa ?h1 ?h2; (case h1 => assumption))
  | (refine' S.At.of ?h1 ?h2; (case h1 => (first | rfl | assumption)))
  | (refine' Ls.of ?h1 ?h2; (case h1 => walk_at "hp"))
  | (refine' IsL.of ?h1 ?h2; (case h1 => walk_at "hp"))
  | (refine' Pl.of ?h1 ?h2; (case h1 => rfl))
  | (refine' Need.mk ?h1 ?h2; (case h1 => walk_at "ar")))
open PySem PySem.Spec PyProof.Rows L2 S in
local macro_rules | `(tactic| walk_at "go") => `(tactic| (repeat walk_at "rd"))
open PySem PySem.Spec PyProof.Rows L2 S in
local macro_rules | `(tactic| walk_at "gx") => `(tactic| (repeat (first | walk_at "rd" | refine' Stop.mk ?_)))
/-! ## the laws' own harness: draws -/
namespace S
open PySem PySem.Spec PyProof.Rows L2
theorem at_ints {ns : List Int} {i : Int} (h0 : 0 ≤ i) (h1 : i < ns.length) : ∃ x, atI (ns.map V.int) i = some (.int x) := by
  obtain ⟨j, rfl⟩ := Int.eq_ofNat_of_zero_le h0
  have hl : j < ns.length := by omega
  refine ⟨ns[j], atI_nat ?_⟩
  rw [List.getElem?_map, List.getElem?_eq_getElem hl]
  rfl
/-- the state of the draws: place, left, number, kind -/
def DrawSt (l : List V) : Prop := ∃ a b n k : Int, l = [.int a, .int b, .int n, .int k] ∧ 0 ≤ a ∧ 0 ≤ n ∧ (b = 0 ∨ k = 2 ∨ n < 10 ^ 18)
/-- the script at a: the calls leave it -/
def ScrAt (K : Frag) (H : Hp) (a st : Addr) (ns : List Int) : Prop := (a ≠ st ∧ SqL K H a (ns.map V.int)) ∨ ∀ H', SqL K H' a (ns.map V.int)
/-- the script at a, the state at st -/
structure Ctx (K : Frag) (H : Hp) (a st : Addr) : Prop where
  scr : ∃ ns : List Int, ScrAt K H a st ns
  stt : ∃ l, H st = some (.lst l) ∧ DrawSt l
theorem ScrAt.sl {K : Frag} {H : Hp} {a st : Addr} {ns : List Int} (h : ScrAt K H a st ns) : SqL K H a (ns.map V.int) := by
  rcases h with ⟨_, h⟩ | h
  · exact h
  · exact h H
theorem ScrAt.x {K : Frag} {H H' : Hp} {a st : Addr} {ns : List Int} (h : ScrAt K H a st ns) (e : SameX st H H') : ScrAt K H' a st ns := by
  rcases h with ⟨n, h⟩ | h
  · exact .inl ⟨n, e.seq h n⟩
  · exact .inr h
theorem ScrAt.same {K : Frag} {H H' : Hp} {a st : Addr} {ns : List Int} (h : ScrAt K H a st ns) (e : Same H H') : ScrAt K H' a st ns := h.x (Same.x e)
theorem Ctx.same {K : Frag} {H H' : Hp} {a st : Addr} (c : Ctx K H a st) (e : Same H H') : Ctx K H' a st := by
  obtain ⟨⟨ns, h⟩, l, hl, d⟩ := c
  exact ⟨⟨ns, h.same e⟩, l, e _ _ hl, d⟩
def sp__law_draw (K : Frag) : Sp := fun vs H Q _ => ∃ (a st : Addr) (base : Int), vs = [.ref a, .ref st, .int base] ∧ Ctx K H a st ∧ 0 < base ∧
  ∀ (r : Int) (H' : Hp), 0 ≤ r → r < base → Ctx K H' a st → SameX st H H' → Q (.int r) H'
/-- a list made behind H0 may change -/
theorem SameX.mut {st : Addr} {H0 H1 : Hp} {p : Addr} {o : HO} (e : SameX st H0 H1) (n : H0 p = none) : SameX st H0 (L2.upd H1 p o) := fun b u h k => by
  rw [upd_ne (ne_of_none h n)]
  exact e b u h k
theorem Same.mut {H0 H1 : Hp} {p : Addr} {o : HO} (e : Same H0 H1) (n : H0 p = none) : Same H0 (upd H1 p o) := fun b u h => by
  rw [upd_ne (ne_of_none h n)]
  exact e b u h
theorem Ctx.mut {K : Frag} {H0 H1 : Hp} {a st p : Addr} {o : HO} (c : Ctx K H1 a st) (e : Ctx K H0 a st) (n : H0 p = none) : Ctx K (L2.upd H1 p o) a st := by
  obtain ⟨⟨ns, h⟩, l, hl, d⟩ := c
  obtain ⟨⟨ns0, h0⟩, l0, hl0, d0⟩ := e
  have n1 : st ≠ p := ne_of_none hl0 n
  refine ⟨?_, l, by rw [upd_ne n1]; exact hl, d⟩
  rcases h with ⟨na, h⟩ | h
  · by_cases e : a = p
    · subst e
      rcases h0.sl with (h0 | ⟨_, h0⟩) | h0
      · rw [n] at h0; cases h0
      · rw [n] at h0; cases h0
      · exact ⟨ns0, .inr fun H' => .inr h0⟩
    · exact ⟨ns, .inl ⟨na, sl_upd h e⟩⟩
  · exact ⟨ns, .inr h⟩
/-- ends ascending within a size -/
def Ends (size : Int) (ns : List Int) : Prop := ns.Pairwise (· < ·) ∧ ∀ x ∈ ns, 0 ≤ x ∧ x < size
theorem Ends.snoc {size at_ : Int} {ns : List Int} (h : Ends size ns) (hb : ∀ x ∈ ns, x < at_) (h0 : 0 ≤ at_) (h1 : at_ < size) : Ends size (ns ++ [at_]) := by
  refine ⟨List.pairwise_append.mpr ⟨h.1, List.pairwise_singleton _ _, fun x hx y hy => ?_⟩, fun x hx => ?_⟩
  · rw [List.mem_singleton.mp hy]
    exact hb x hx
  · rcases List.mem_append.mp hx with hx | hx
    · exact h.2 x hx
    · rw [List.mem_singleton.mp hx]
      exact ⟨h0, h1⟩
end S
-- deps: D0
/-! ## data compared, isinstance -/
namespace S
open PySem PySem.Spec PyProof.Rows L2
theorem isi_tup {K : Frag} {H : Hp} {p : Addr} {xs : List V} {k : Bool → Prop} (h : SqT K H p xs) (q : k true) : Isi K H (.ref p) (.type "tuple") k := by
  rcases h with (h | ⟨o, h⟩) | ⟨o, its, n, h1, h2, _⟩
  · exact Isi.of (.base (.tup h)) rfl q
  · exact Isi.of (.fTuple h) rfl q
  · exact Isi.of (.kTuple h1 h2) rfl q
theorem isi_lst {K : Frag} {H : Hp} {p : Addr} {xs : List V} {k : Bool → Prop} (h : H p = some (.lst xs)) (q : k true) : Isi K H (.ref p) (.type "list") k := Isi.of (.base (.lst h)) rfl q
theorem Ends.drop {size : Int} {ns : List Int} (h : Ends size ns) (k : Nat) : Ends size (ns.drop k) := ⟨h.1.sublist (List.drop_sublist k ns), fun x hx => h.2 x (List.mem_of_mem_drop hx)⟩
theorem Ends.filter {size : Int} {ns : List Int} (h : Ends size ns) (p : Int → Bool) : Ends size (ns.filter p) := ⟨h.1.filter p, fun x hx => h.2 x ((List.mem_filter.mp hx).1)⟩
theorem Ends.up {size : Int} {ns : List Int} (h : Ends size ns) : Ends size ((ns.filter fun x => decide (x + 1 < size)).map fun x => x + 1) := by
  refine ⟨List.pairwise_map.mpr ((h.1.filter _).imp fun {a b} hab => by omega), fun x hx => ?_⟩
  obtain ⟨y, hy, rfl⟩ := List.mem_map.mp hx
  have h1 := (List.mem_filter.mp hy)
  have h2 := h.2 y h1.1
  have h3 : y + 1 < size := of_decide_eq_true h1.2
  omega
def sp_law (K : Frag) : Sp := fun vs H Q _ => ∃ (a : Addr) (ns : List Int), vs = [.ref a] ∧ SqL K H a (ns.map V.int) ∧ ∀ H', Q (.bl true) H'
theorem ctx0 {K : Frag} {H : Hp} {a st : Addr} {ns : List Int} (h : SqL K H a (ns.map V.int)) (hs : H st = none) (l : List V) (d : DrawSt l) : Ctx K (upd H st (.lst l)) a st := by
  refine ⟨⟨ns, ?_⟩, _, upd_same, d⟩
  rcases h with h | h
  · have ne : a ≠ st := by
      rintro rfl
      rcases h with h | ⟨_, h⟩
      · rw [hs] at h; cases h
      · rw [hs] at h; cases h
    exact .inl ⟨ne, sl_upd (.inl h) ne⟩
  · exact .inr fun H' => .inr h
theorem ctx_st {K : Frag} {H : Hp} {a st : Addr} (c : Ctx K H a st) : ∃ l, H st = some (.lst l) := let ⟨_, l, h, _⟩ := c; ⟨l, h⟩
theorem ctx_ne {K : Frag} {H : Hp} {a st p : Addr} (c : Ctx K H a st) (n : H p = none) : p ≠ st := by
  obtain ⟨l, h⟩ := ctx_st c
  exact (ne_of_none h n).symm
end S
-- deps: D0 D1
/-! ## pairs of a name and a number -/
namespace S
open PySem PySem.Spec PyProof.Rows L2
abbrev Col : Type := Str × Int
def ColT (K : Frag) (H : Hp) (c : Col) (y : V) : Prop := ∃ a, y = .ref a ∧ SqT K H a [.str c.1, .int c.2]
def Cols (K : Frag) (H : Hp) (ys : List V) (cs : List Col) : Prop := Paired (ColT K H) cs ys
section
variable {K : Frag} {H H' : Hp} {ys zs : List V} {cs ds : List Col}
theorem Cols.same (h : Cols K H ys cs) (e : Same H H') : Cols K H' ys cs := Paired.mapP h fun _ _ ⟨a, h1, h2⟩ => ⟨a, h1, Same.tup e h2⟩
theorem Cols.x {st : Addr} {l : List V} (h : Cols K H ys cs) (e : SameX st H H') (hst : H st = some (.lst l)) : Cols K H' ys cs := Paired.mapP h fun _ _ ⟨a, h1, h2⟩ => ⟨a, h1, e.tup h2 hst⟩
theorem dp_cols : ∀ {ys : List V} {cs : List Col}, Cols K H ys cs → DpAll K H ys (cs.map PySem.W.Datum.toD)
  | _, _, .nil => .nil
  | _, _, .cons ⟨_, e, h⟩ r => by subst e; exact .cons (.tup h (.cons (.str _) (.cons (.int _) .nil))) (dp_cols r)
theorem can_cols : ∀ cs : List Col, (∀ c ∈ cs, PyData.strOk c.1 = true) → PyData.canLayAll0 (cs.map PySem.W.Datum.toD) = true
  | [], _ => rfl
  | c :: r, h => by
    show (PyData.canLayAll0 [.str c.1, .int c.2] && PyData.canLayAll0 (r.map PySem.W.Datum.toD)) = true
    rw [can_cols r fun d hd => h d (List.mem_cons_of_mem _ hd)]
    have := h c (List.mem_cons_self ..)
    simp [PyData.canLayAll0, PyData.canLay0, this]
theorem dep_cols : ∀ cs : List Col, PyData.depthAll (cs.map PySem.W.Datum.toD) ≤ 1
  | [] => Nat.zero_le _
  | c :: r => by
    show max (PyData.depthAll [.str c.1, .int c.2] + 1) (PyData.depthAll (r.map PySem.W.Datum.toD)) ≤ 1
    have := dep_cols r
    have e : PyData.depthAll [.str c.1, .int c.2] = 0 := by simp [PyData.depthAll, PyData.depth]
    rw [e]; omega
theorem shp_cols {cs : List Col} (h : ∀ c ∈ cs, PyData.strOk c.1 = true) : SeqAt.shaped (.list (cs.map PySem.W.Datum.toD)) = true := by
  unfold SeqAt.shaped
  have e1 : PyData.canLay0 (.list (cs.map PySem.W.Datum.toD)) = true := can_cols cs h
  have e2 : PyData.depth (.list (cs.map PySem.W.Datum.toD)) ≤ 64 := by show PyData.depthAll _ + 1 ≤ 64; have := dep_cols cs; omega
  rw [e1, decide_eq_true e2]; rfl
theorem eqd_cols {a b : Addr} {k : Bool → Prop} (h : SqL K H a ys) (h2 : SqL K H b zs) (p : Cols K H ys cs) (p2 : Cols K H zs ds) (s1 : ∀ c ∈ cs, PyData.strOk c.1 = true) (s2 : ∀ c ∈ ds, PyData.strOk c.1 = true) (q : k (decide (cs = ds))) : EqD K H (.ref a) (.ref b) k :=
  ⟨_, _, .lst h (dp_cols p), .lst h2 (dp_cols p2), shp_cols s1, shp_cols s2, by
    have e : PyData.eqv (.list (cs.map PySem.W.Datum.toD)) (.list (ds.map PySem.W.Datum.toD)) = decide (cs = ds) := PySem.W.Datum.eqv cs ds
    rw [e]; exact q⟩
end
end S
-- deps: D0 D1
/-! ## terms: lists of a name and a number, dicts of them, their sorted form -/
namespace S
open PySem PySem.Spec PyProof.Rows L2
def leS (x y : Str) : Prop := x.cps.toList ≤ y.cps.toList
theorem leS_total (x y : Str) : leS x y ∨ leS y x := List.le_total _ _
theorem leS_trans {x y z : Str} (h : leS x y) (g : leS y z) : leS x z := List.le_trans h g
theorem strX {x y : Str} (h : x.cps.toList = y.cps.toList) : x = y := by
  cases x; cases y
  congr 1
  exact Array.toList_inj.mp h
theorem leS_anti {x y : Str} (h : leS x y) (g : leS y x) : x = y := strX (List.le_antisymm h g)
theorem rising_pw : ∀ (l : List Str) (p : Str), risingS p l = true → (p :: l).Pairwise leS
  | [], p, _ => List.pairwise_singleton _ _
  | x :: r, p, h => by
    obtain ⟨h1, h2⟩ := Bool.and_eq_true_iff.mp (show (!ltCps x.cps.toList p.cps.toList && risingS x r) = true from h)
    have ih := rising_pw r x h2
    rw [ltCps_eq] at h1
    have px : leS p x := List.not_lt.mp (by simpa using h1)
    refine List.pairwise_cons.mpr ⟨fun y hy => ?_, ih⟩
    rcases List.mem_cons.mp hy with rfl | hy
    · exact px
    · exact leS_trans px ((List.pairwise_cons.mp ih).1 y hy)
theorem sorted_pw : ∀ l : List Str, sortedS l = true → l.Pairwise leS
  | [], _ => .nil
  | x :: r, h => rising_pw r x h
theorem permS : ∀ {as bs : List Str}, as.Perm bs → as.Pairwise leS → bs.Pairwise leS → as = bs
  | [], bs, h, _, _ => h.nil_eq
  | a :: as, [], h, _, _ => by have := h.length_eq; rw [List.length_cons, List.length_nil] at this; omega
  | a :: as, b :: bs, h, ha, hb => by
    have h1 : a ∈ b :: bs := h.mem_iff.mp (List.mem_cons_self ..)
    have h2 : b ∈ a :: as := h.mem_iff.mpr (List.mem_cons_self ..)
    have e : a = b := by
      rcases List.mem_cons.mp h1 with h1 | h1
      · exact h1
      · rcases List.mem_cons.mp h2 with h2 | h2
        · exact h2.symm
        · exact leS_anti ((List.pairwise_cons.mp ha).1 b h2) ((List.pairwise_cons.mp hb).1 a h1)
    subst e
    rw [permS (List.perm_cons a |>.mp h) (List.pairwise_cons.mp ha).2 (List.pairwise_cons.mp hb).2]
abbrev Tms : Type := List (Str × Int)
def nmT (T : Tms) : List Str := T.map fun t => t.1
def lkT : Tms → Str → Option Int
  | [], _ => none
  | t :: T, z => if t.1 = z then some t.2 else lkT T z
theorem lkT_none {z : Str} : ∀ {T : Tms}, z ∉ nmT T → lkT T z = none
  | [], _ => rfl
  | t :: T, h => by
    show (if t.1 = z then some t.2 else lkT T z) = none
    rw [if_neg fun e => h (by rw [← e]; exact List.mem_cons_self ..)]
    exact lkT_none fun hm => h (List.mem_cons_of_mem _ hm)
theorem lkT_mem : ∀ {T : Tms} {t : Str × Int}, (nmT T).Nodup → t ∈ T → lkT T t.1 = some t.2
  | t0 :: T, t, nd, h => by
    obtain ⟨h1, h2⟩ := List.pairwise_cons.mp nd
    show (if t0.1 = t.1 then some t0.2 else lkT T t.1) = _
    rcases List.mem_cons.mp h with rfl | h
    · rw [if_pos rfl]
    · rw [if_neg (h1 t.1 (List.mem_map.mpr ⟨t, h, rfl⟩))]
      exact lkT_mem h2 h
theorem lkT_some {z : Str} {c : Int} : ∀ {T : Tms}, lkT T z = some c → (z, c) ∈ T
  | t :: T, h => by
    have h : (if t.1 = z then some t.2 else lkT T z) = some c := h
    by_cases e : t.1 = z
    · rw [if_pos e] at h
      injection h with h
      rw [← e, ← h]; exact List.mem_cons_self ..
    · rw [if_neg e] at h
      exact List.mem_cons_of_mem _ (lkT_some h)
theorem lkT_no {z : Str} : ∀ {T : Tms}, lkT T z = none → z ∉ nmT T
  | [], _, h => nomatch h
  | t :: T, e, h => by
    have e : (if t.1 = z then some t.2 else lkT T z) = none := e
    by_cases g : t.1 = z
    · rw [if_pos g] at e; cases e
    · rw [if_neg g] at e
      rcases List.mem_cons.mp h with h | h
      · exact g h.symm
      · exact lkT_no e h
theorem lkT_is {z : Str} {T : Tms} : (lkT T z).isSome = true ↔ z ∈ nmT T := by
  constructor
  · intro h
    obtain ⟨c, hc⟩ := Option.isSome_iff_exists.mp h
    exact List.mem_map.mpr ⟨_, lkT_some hc, rfl⟩
  · intro h
    cases e : lkT T z with
    | some c => rfl
    | none => exact absurd h (lkT_no e)
structure SoT (T : Tms) : Prop where
  nd : (nmT T).Nodup
  st : (nmT T).Pairwise leS
theorem tms_of {T : Tms} (nd : (nmT T).Nodup) : T = (nmT T).map fun z => (z, (lkT T z).getD 0) := by
  have h : ∀ U : Tms, (∀ t ∈ U, lkT T t.1 = some t.2) → U = (nmT U).map fun z => (z, (lkT T z).getD 0) := fun U => by
    induction U with
    | nil => intro _; rfl
    | cons t U ih =>
      intro h
      show t :: U = (t.1, (lkT T t.1).getD 0) :: _
      rw [h t (List.mem_cons_self ..)]
      congr 1
      exact ih fun u hu => h u (List.mem_cons_of_mem _ hu)
  exact h T fun t ht => lkT_mem nd ht
theorem srt_ext {T U : Tms} (h : SoT T) (g : SoT U) (e : ∀ z, lkT T z = lkT U z) : T = U := by
  have hp : (nmT T).Perm (nmT U) := (List.perm_ext_iff_of_nodup h.nd g.nd).mpr fun z => by rw [← lkT_is, ← lkT_is, e]
  have hn := permS hp h.st g.st
  refine (tms_of h.nd).trans (Eq.trans ?_ (tms_of g.nd).symm)
  rw [hn]
  exact List.map_congr_left fun z _ => by rw [e]
/-! ### dicts -/
def dkI (D : Tms) : List (Key × V) := D.map fun t => (.inr t.1, V.int t.2)
theorem dkI_val (z : Str) : ∀ D : Tms, valV (dkI D) (.inr z) = (lkT D z).map V.int
  | [] => rfl
  | t :: D => by
    have ih := dkI_val z D
    show valV (((Sum.inr t.1 : Key), V.int t.2) :: dkI D) (.inr z) = (if t.1 = z then some t.2 else lkT D z).map V.int
    by_cases e : t.1 = z
    · rw [if_pos e, valV_pos (p := ((Sum.inr t.1 : Key), V.int t.2)) (by rw [← e])]; rfl
    · rw [if_neg e, valV_neg (p := ((Sum.inr t.1 : Key), V.int t.2)) (fun h => e (Sum.inr.inj h)), ih]
theorem dkI_keys (D : Tms) : (dkI D).map (·.1) = (nmT D).map Sum.inr := by
  unfold dkI nmT
  rw [List.map_map, List.map_map]; rfl
def putT (D : Tms) (z : Str) (c : Int) : Tms := if (lkT D z).isSome then D.map fun t => if t.1 = z then (t.1, c) else t else D ++ [(z, c)]
theorem dkI_put (D : Tms) (z : Str) (c : Int) : putK (dkI D) (.inr z) (.int c) = dkI (putT D z c) := by
  have hv := dkI_val z D
  unfold putT
  by_cases h : (lkT D z).isSome
  · rw [if_pos h]
    have ha : ((dkI D).any fun kv => decide (kv.1 = .inr z)) = true := by
      rw [valV_any, hv, Option.isSome_map]; exact h
    unfold putK
    rw [if_pos ha]
    unfold dkI
    rw [List.map_map, List.map_map]
    refine List.map_congr_left fun t _ => ?_
    show (if (Sum.inr t.1 : Key) = .inr z then _ else _) = _
    by_cases e : t.1 = z
    · rw [if_pos (by rw [e])]
      show _ = ((.inr (if t.1 = z then (t.1, c) else t).1 : Key), V.int (if t.1 = z then (t.1, c) else t).2)
      rw [if_pos e]
    · rw [if_neg (fun g => e (Sum.inr.inj g))]
      show _ = ((.inr (if t.1 = z then (t.1, c) else t).1 : Key), V.int (if t.1 = z then (t.1, c) else t).2)
      rw [if_neg e]
  · rw [if_neg h]
    have hn : valV (dkI D) (.inr z) = none := by
      rw [hv]
      cases e : lkT D z with
      | none => rfl
      | some c => rw [e] at h; exact absurd rfl h
    rw [putK_new _ hn]
    unfold dkI
    rw [List.map_append]; rfl
theorem merge_dkI {D : Tms} (nd : (nmT D).Nodup) : mergeK [] (dkI D) = dkI D := by
  have gen : ∀ (E A : Tms), (nmT (A ++ E)).Nodup → mergeK (dkI A) (dkI E) = dkI (A ++ E) := fun E => by
    induction E with
    | nil => intro A _; rw [List.append_nil]; rfl
    | cons t E ih =>
      intro A nd
      have hn : t.1 ∉ nmT A := fun h => by
        unfold nmT at nd
        rw [List.map_append] at nd
        exact (List.pairwise_append.mp nd).2.2 t.1 h t.1 (List.mem_cons_self ..) rfl
      show mergeK (putK (dkI A) (.inr t.1) (.int t.2)) (dkI E) = _
      rw [dkI_put]
      have ep : putT A t.1 t.2 = A ++ [t] := by
        unfold putT
        rw [if_neg fun g => hn (lkT_is.mp g)]
      rw [ep, ih (A ++ [t]) (by rw [List.append_assoc]; exact nd), List.append_assoc]; rfl
  exact gen D [] nd
end S
-- deps: Fmm Cols
/-! ## terms: added, multiplied, read step by step -/
namespace S
open PySem PySem.Spec PyProof.Rows L2
theorem cols_atF {K : Frag} {H : Hp} : ∀ {ys : List V} {cs : List Col} {i : Nat} {y : V}, Cols K H ys cs → ys[i]? = some y → ∃ c, cs[i]? = some c ∧ ColT K H c y
  | _, _, i, _, .nil, h => by simp at h
  | _, _, 0, _, .cons h _, e => by
    rw [List.getElem?_cons_zero] at e
    cases e
    exact ⟨_, rfl, h⟩
  | _, _, i + 1, _, .cons _ t, e => by
    rw [List.getElem?_cons_succ] at e
    obtain ⟨x, hx, hp⟩ := cols_atF t e
    exact ⟨x, by rw [List.getElem?_cons_succ]; exact hx, hp⟩
theorem nodup_takeF {α : Type} {L : List α} {i : Nat} {x : α} (h : L.Nodup) (hx : L[i]? = some x) : x ∉ L.take i := fun hm => by
  obtain ⟨j, hj⟩ := List.mem_iff_getElem?.mp hm
  have hjl : j < i := by have := (List.getElem?_eq_some_iff.mp hj).1; rw [List.length_take] at this; omega
  rw [List.getElem?_take_of_lt hjl] at hj
  obtain ⟨l1, g1⟩ := List.getElem?_eq_some_iff.mp hj
  obtain ⟨l2, g2⟩ := List.getElem?_eq_some_iff.mp hx
  exact List.pairwise_iff_getElem.mp h j i l1 l2 hjl (g1.trans g2.symm)
theorem nmT_take (T : Tms) (i : Nat) : nmT (T.take i) = (nmT T).take i := List.map_take
theorem take_fresh {T : Tms} {i : Nat} {t : Col} (nd : (nmT T).Nodup) (h : T[i]? = some t) : t.1 ∉ nmT (T.take i) := by
  rw [nmT_take]
  refine nodup_takeF nd ?_
  unfold nmT
  rw [List.getElem?_map, h]; rfl
/-- coefficients of at most a million in size -/
def smT (D : Tms) : Prop := ∀ t ∈ D, -(10 ^ 6) ≤ t.2 ∧ t.2 ≤ 10 ^ 6
theorem smT.lk {D : Tms} (h : smT D) {z : Str} {c : Int} (e : lkT D z = some c) : -(10 ^ 6) ≤ c ∧ c ≤ 10 ^ 6 := h _ (lkT_some e)
theorem smT.big {D : Tms} (h : smT D) : ∀ t ∈ D, -(2 ^ 64) < t.2 ∧ t.2 < 2 ^ 64 := fun t ht => by have := h t ht; omega
theorem smT.congr {T D : Tms} (h : smT D) (nT : (nmT T).Nodup) (e : ∀ z, lkT T z = lkT D z) : smT T := fun t ht => h.lk (e t.1 ▸ lkT_mem nT ht)
end S
-- deps: Cols Fm2
/-! ## steps of a recipe for a question, as tuples on the heap -/
namespace S
open PySem PySem.Spec PyProof.Rows L2
inductive Stp where
  | and | or | not | sure | twice
  | prs (z : Str)
  | bit (z : Str) (p : Int)
  | atm (T : Tms) (b : Int)
/-- the step at a; a list of its own was not there at H0 -/
def StA (K : Frag) (H0 H : Hp) (a : Addr) : Stp → Prop
  | .and => SqT K H a [.str "and"]
  | .or => SqT K H a [.str "or"]
  | .not => SqT K H a [.str "not"]
  | .sure => SqT K H a [.str "sure"]
  | .twice => SqT K H a [.str "twice"]
  | .prs z => SqT K H a [.str "present", .str z]
  | .bit z p => SqT K H a [.str "bit", .str z, .int p]
  | .atm T b => ∃ l ys, SqT K H a [.str "atmost", .ref l, .int b] ∧ H0 l = none ∧ H l = some (.lst ys) ∧ Cols K H ys T
/-- a step that is a question without parts, over the names L -/
def Stp.leaf (L : List Str) : Stp → Prop
  | .prs z => z ∈ L
  | .bit z p => z ∈ L ∧ 0 ≤ p ∧ p ≤ 1000
  | .atm T b => (nmT T).Nodup ∧ (∀ z ∈ nmT T, z ∈ L) ∧ (∀ t ∈ T, -4 ≤ t.2 ∧ t.2 ≤ 4) ∧ widI b ≤ 200
  | _ => False
/-- a place and a bound with room for one more -/
def Stp.low : Stp → Prop
  | .bit _ p => p ≤ 900
  | .atm _ b => widI b ≤ 190
  | _ => True
def Stp.leafS (L : List Str) (s : Stp) : Prop := s.leaf L ∧ s.low
theorem StA.same {K : Frag} {H0 H H' : Hp} {a : Addr} {s : Stp} (h : StA K H0 H a s) (e : Same H H') : StA K H0 H' a s := by
  cases s <;> first | exact Same.tup e h | (obtain ⟨l, ys, h1, h0, h2, h3⟩ := h; exact ⟨l, ys, Same.tup e h1, h0, e _ _ h2, h3.same e⟩)
/-- a store on a list that was there -/
theorem StA.x {K : Frag} {H0 H H' : Hp} {a st : Addr} {s : Stp} {l0 : List V} {o : HO} (h : StA K H0 H a s) (e : SameX st H H') (hst : H st = some (.lst l0)) (h0 : H0 st = some o) : StA K H0 H' a s := by
  cases s <;> first | exact e.tup h hst | (obtain ⟨l, ys, h1, hl, h2, h3⟩ := h; exact ⟨l, ys, e.tup h1 hst, hl, e _ _ h2 (Ne.symm (ne_of_none h0 hl)), h3.x e hst⟩)
theorem StA.older {K : Frag} {H0 H1 H : Hp} {a : Addr} {s : Stp} (h : StA K H1 H a s) (e : ∀ l, H1 l = none → H0 l = none) : StA K H0 H a s := by
  cases s <;> first | exact h | (obtain ⟨l, ys, h1, hl, h2⟩ := h; exact ⟨l, ys, h1, e l hl, h2⟩)
end S
-- deps: Fmm
/-! ## rows: dicts of a name and a number or None -/
namespace S
open PySem PySem.Spec PyProof.Rows L2
def vRow (v : Option Int) : V := match v with
  | none => .non
  | some i => .int i
abbrev Row : Type := List (Str × Option Int)
def lkR : Row → Str → Option (Option Int)
  | [], _ => none
  | t :: T, z => if t.1 = z then some t.2 else lkR T z
def dkR (D : Row) : List (Key × V) := D.map fun t => (.inr t.1, vRow t.2)
theorem dkR_val (z : Str) : ∀ D : Row, valV (dkR D) (.inr z) = (lkR D z).map vRow
  | [] => rfl
  | t :: D => by
    have ih := dkR_val z D
    show valV (((Sum.inr t.1 : Key), vRow t.2) :: dkR D) (.inr z) = (if t.1 = z then some t.2 else lkR D z).map vRow
    by_cases e : t.1 = z
    · rw [if_pos e, valV_pos (p := ((Sum.inr t.1 : Key), vRow t.2)) (by rw [← e])]; rfl
    · rw [if_neg e, valV_neg (p := ((Sum.inr t.1 : Key), vRow t.2)) (fun h => e (Sum.inr.inj h)), ih]
/-- the value of a form in a row -/
def valT (R : Row) : Tms → Int → Option Int
  | [], w => some w
  | t :: T, w => match lkR R t.1 with
    | some (some c) => valT R T (w + t.2 * c)
    | _ => none
end S
-- deps: D0 D1
/-! ## a bitmap on the heap -/
namespace S
open PySem PySem.Spec PyProof.Rows L2
theorem Same.slt {H H' : Hp} {a C dx : Addr} {vs : List (Option V)} (e : Same H H') (h : SlX.Slt H a C dx vs) : SlX.Slt H' a C dx vs := by
  rcases h with ⟨h, z⟩ | ⟨h, z⟩
  · exact .inl ⟨e _ _ h, z⟩
  · exact .inr ⟨e _ _ h, e _ _ z⟩
theorem slO_lst {a C dx : Addr} {vs : List (Option V)} {xs : List V} : SlX.SlO a C dx vs ≠ .lst xs := fun z => by unfold SlX.SlO at z; cases z
theorem slO_tup {a C dx : Addr} {vs : List (Option V)} {xs : List V} : SlX.SlO a C dx vs ≠ .tup xs := fun z => by unfold SlX.SlO at z; cases z
theorem slO_frz {a C dx : Addr} {vs : List (Option V)} {o : Obj} {u : HO} : SlX.SlO a C dx vs ≠ .frz o u := fun z => by unfold SlX.SlO at z; cases z
theorem SameX.slt {st : Addr} {H H' : Hp} {a C dx : Addr} {vs : List (Option V)} {l : List V} (e : SameX st H H') (hst : H st = some (.lst l)) (h : SlX.Slt H a C dx vs) : SlX.Slt H' a C dx vs := by
  rcases h with ⟨h, z⟩ | ⟨h, z⟩
  · exact .inl ⟨e _ _ h (ne_of h hst (fun y => by cases y)), z⟩
  · exact .inr ⟨e _ _ h (ne_of h hst slO_lst), e _ _ z (ne_of z hst (fun y => by cases y))⟩
/-- all but two objects stays -/
def SameO (x y : Addr) (H H' : Hp) : Prop := ∀ b o, H b = some o → b ≠ x → b ≠ y → H' b = some o
theorem Same.o {x y : Addr} {H H' : Hp} (e : Same H H') : SameO x y H H' := fun b o h _ _ => e b o h
theorem SameO.trans {x y : Addr} {H H1 H2 : Hp} (a : SameO x y H H1) (b : SameO x y H1 H2) : SameO x y H H2 := fun c o h n m => b c o (a c o h n m) n m
theorem SameO.slH {x y C : Addr} {H : Hp} {vs : List (Option V)} : SameO x y H (SlX.slH H x C y vs) := fun b o h n m => by rw [SlX.slH_ne n m]; exact h
theorem SameO.tup {K : Frag} {x y a C : Addr} {H H' : Hp} {xs : List V} {vs : List (Option V)} (e : SameO x y H H') (hx : SlX.Slt H x C y vs) (hy : ∀ o, H y = some o → (∀ ys, o ≠ .tup ys) ∧ ∀ u w, o ≠ .frz u w) (h : SqT K H a xs) : SqT K H' a xs := by
  have nx : ∀ o, H a = some o → (o = .tup xs ∨ ∃ u, o = .frz u (.tup xs)) → a ≠ x ∧ a ≠ y := fun o ho q => by
    refine ⟨fun z => ?_, fun z => ?_⟩
    · subst z
      rcases hx with ⟨h1, _⟩ | ⟨h1, _⟩
      · rw [ho] at h1
        rcases q with q | ⟨u, q⟩ <;> · rw [q] at h1; cases h1
      · rw [ho] at h1
        have h2 := Option.some.inj h1
        rcases q with q | ⟨u, q⟩
        · exact slO_tup (h2.symm.trans q)
        · exact slO_frz (h2.symm.trans q)
    · subst z
      rcases q with q | ⟨u, q⟩
      · exact (hy _ ho).1 _ q
      · exact (hy _ ho).2 _ _ q
  rcases h with (h | ⟨o, h⟩) | h
  · obtain ⟨n, m⟩ := nx _ h (.inl rfl)
    exact .inl (.inl (e _ _ h n m))
  · obtain ⟨n, m⟩ := nx _ h (.inr ⟨_, rfl⟩)
    exact .inl (.inr ⟨o, e _ _ h n m⟩)
  · exact .inr h
abbrev BmF (K : Frag) : Prop := CF K "Bitmap" ["ends", "size"]
/-- a bitmap: its size, its ends -/
def Bm (K : Frag) (H : Hp) (a : Addr) (n : Int) (es : List Int) : Prop := BmF K ∧ 0 ≤ n ∧ Ends n es ∧ ∃ dx p, SlX.Slt H a (He.ga K "Bitmap") dx [some (.ref p), some (.int n)] ∧ SqT K H p (es.map V.int)
theorem Bm.same {K : Frag} {H H' : Hp} {a : Addr} {n : Int} {es : List Int} (h : Bm K H a n es) (e : Same H H') : Bm K H' a n es := by
  obtain ⟨c, h0, hE, dx, p, h1, h2⟩ := h
  exact ⟨c, h0, hE, dx, p, Same.slt e h1, Same.tup e h2⟩
theorem Bm.x {K : Frag} {st : Addr} {H H' : Hp} {a : Addr} {n : Int} {es : List Int} {l : List V} (h : Bm K H a n es) (e : SameX st H H') (hst : H st = some (.lst l)) : Bm K H' a n es := by
  obtain ⟨c, h0, hE, dx, p, h1, h2⟩ := h
  exact ⟨c, h0, hE, dx, p, e.slt hst h1, e.tup h2 hst⟩
end S
namespace S
open PySem PySem.Spec PyProof.Rows L2
def t_Formdd_initdd_1 (K : Frag) (E : XK) : TS :=
    dSto K "offset" (dVar 2) (dVar 0)
def t_Formdd_initdd (K : Frag) (E : XK) : TS :=
    tSeq (dSto K "terms" (tCB (cTupleF K) (tCons (dLc (iSeq K (tCB (cSortedD K) (tCons (dVar 1) (tNil)))) (gName 3) (tYes) (dTup K (tCons (dVar 3) (tCons (tOp (oIxD K) (dVar 1) (dVar 3)) (tNil)))) [3]) (tNil))) (dVar 0))
    (stop (t_Formdd_initdd_1 K E))
end S
-- fn: Form.__init__
-- law: k38
-- dict: terms
-- sortD: yes
-- tupF: yes
-- deps: Fmm Cols Bm D0 D1
namespace S
open PySem PySem.Spec PyProof.Rows L2
abbrev FoF (K : Frag) : Prop := CF K "Form" ["offset", "terms"]
/-- a form: its terms, names ascending, and its offset -/
def Fo (K : Frag) (H : Hp) (x : Addr) (T : Tms) (o : Int) : Prop := FoF K ∧ SoT T ∧ T.length ≤ 60 ∧ ∃ dx u ys, SlX.Slt H x (He.ga K "Form") dx [some (.int o), some (.ref u)] ∧ TupF H u ys ∧ Cols K H ys T
theorem Fo.same {K : Frag} {H H' : Hp} {x : Addr} {T : Tms} {o : Int} (h : Fo K H x T o) (e : Same H H') : Fo K H' x T o := by
  obtain ⟨c, s, l, dx, u, ys, h1, h2, h3⟩ := h
  exact ⟨c, s, l, dx, u, ys, Same.slt e h1, h2.same e, h3.same e⟩
theorem Fo.x {K : Frag} {H H' : Hp} {x st : Addr} {T : Tms} {o : Int} {l : List V} (h : Fo K H x T o) (e : SameX st H H') (hst : H st = some (.lst l)) : Fo K H' x T o := by
  obtain ⟨c, s, ll, dx, u, ys, h1, h2, h3⟩ := h
  exact ⟨c, s, ll, dx, u, ys, e.slt hst h1, h2.x e (fun o u z => by rw [hst] at z; cases z), h3.x e hst⟩
theorem Cols.o {K : Frag} {H H' : Hp} {x dx C : Addr} {vs : List (Option V)} {ys : List V} {cs : List Col} (h : Cols K H ys cs) (e : SameO x dx H H') (hx : SlX.Slt H x C dx vs) (hy : ∀ o, H dx = some o → (∀ ys, o ≠ .tup ys) ∧ ∀ u w, o ≠ .frz u w) : Cols K H' ys cs := Paired.mapP h fun _ _ ⟨a, h1, h2⟩ => ⟨a, h1, e.tup hx hy h2⟩
theorem TupF.o {H H' : Hp} {x dx C a : Addr} {vs : List (Option V)} {xs : List V} (h : TupF H a xs) (e : SameO x dx H H') (hx : SlX.Slt H x C dx vs) (hy : ∀ o, H dx = some o → (∀ ys, o ≠ .tup ys) ∧ ∀ u w, o ≠ .frz u w) : TupF H' a xs := by
  obtain ⟨o, h1, h2⟩ := h
  refine ⟨o, e _ _ h1 (fun z => ?_) (fun z => (hy _ (z ▸ h1)).2 _ _ rfl), h2⟩
  subst z
  rcases hx with ⟨h, _⟩ | ⟨h, _⟩
  · rw [h1] at h; cases h
  · rw [h1] at h; exact SlX_frz (Option.some.inj h).symm
where SlX_frz {a C dx : Addr} {vs : List (Option V)} {o : Obj} {u : HO} : SlX.SlO a C dx vs ≠ .frz o u := slO_frz
def sp_Formdd_initdd (K : Frag) : Sp := fun vs H Q _ => ∃ (H0 : Hp) (x dx d : Addr) (D : Tms) (o : Int), vs = [.ref x, .ref d, .int o] ∧ FoF K ∧ H0 x = none ∧ H0 dx = none ∧ Same H0 H ∧ H x = some (.ins (He.ga K "Form") dx []) ∧ H dx = some (.own x) ∧ dx ≠ x ∧
  L2.Rd H0 d (.dK (dkI D)) ∧ (nmT D).Nodup ∧ D.length ≤ 60 ∧ ∀ T H', Same H0 H' → SoT T → (∀ z, lkT T z = lkT D z) → Fo K H' x T o → Q .non H'
theorem Rd.sm {H H' : Hp} {a : Addr} {u : HO} (h : L2.Rd H a u) (e : Same H H') : L2.Rd H' a u := h.elim (fun h => .inl (e _ _ h)) fun ⟨o, h⟩ => .inr ⟨o, e _ _ h⟩
theorem cols_snocF {K : Frag} {H : Hp} {y : V} {c : Col} : ∀ {ys : List V} {cs : List Col}, Cols K H ys cs → ColT K H c y → Cols K H (ys ++ [y]) (cs ++ [c])
  | _, _, .nil, h => .cons h .nil
  | _, _, .cons a t, h => .cons a (cols_snocF t h)
theorem mget1 {α : Type} {g : α → V} {ns : List α} {i : Nat} {x : V} (h : (ns.map g)[i]? = some x) : ∃ y, ns[i]? = some y ∧ x = g y := by
  rw [List.getElem?_map] at h
  cases e : ns[i]? with
  | none => rw [e] at h; cases h
  | some y => rw [e] at h; exact ⟨y, rfl, (Option.some.inj h).symm⟩
def trmT (D : Tms) (L : List Str) : Tms := L.map fun z => (z, (lkT D z).getD 0)
theorem trmT_nm (D : Tms) (L : List Str) : nmT (trmT D L) = L := by
  unfold nmT trmT
  rw [List.map_map]
  exact List.map_id' L
theorem trmT_lk (D : Tms) {z : Str} : ∀ L : List Str, lkT (trmT D L) z = if z ∈ L then some ((lkT D z).getD 0) else none
  | [] => rfl
  | y :: L => by
    have ih := trmT_lk D (z := z) L
    show (if y = z then some ((lkT D y).getD 0) else lkT (trmT D L) z) = _
    by_cases e : y = z
    · rw [if_pos e, e, if_pos (List.mem_cons_self ..)]
    · rw [if_neg e, ih]
      by_cases h : z ∈ L
      · rw [if_pos h, if_pos (List.mem_cons_of_mem _ h)]
      · rw [if_neg h, if_neg (fun g => (List.mem_cons.mp g).elim (fun g => e g.symm) h)]
theorem pure_Formdd_initdd {K : Frag} (vs : List V) (H : Hp) (Q : VK) (E : XK) (h : sp_Formdd_initdd K vs H Q E) : t_Formdd_initdd K E { nx := fun _ H' => Q .non H', rt := Q } (start ["self", "terms", "offset", "name"] vs) H := by
  obtain ⟨H0, x, dx, d, D, o, rfl, cf, nx, ndx, e0, hx, hdx, hne, hd, nd, lD, q⟩ := h
  have hdH := Rd.sm hd e0
  walk_at "gx"
  refine SrtD.d hdH (dkI_keys D) (by unfold nmT; rw [List.length_map]; omega) fun ys l hp hs nl => ?_
  have e1 := same_new (o := .lst (ys.map V.str)) nl
  have hl : upd H l (.lst (ys.map V.str)) l = some (.lst (ys.map V.str)) := upd_same
  have hd1 := Rd.sm hdH e1
  have e01 := e0.trans e1
  have hx1 := e1 _ _ hx
  have hdx1 := e1 _ _ hdx
  generalize upd H l (.lst (ys.map V.str)) = H1 at *
  have lys : ys.length ≤ 60 := by have := hp.length_eq; unfold nmT at this; rw [List.length_map] at this; omega
  have hin : ∀ z ∈ ys, ∃ c, lkT D z = some c := fun z hz => Option.isSome_iff_exists.mp (lkT_is.mpr (hp.mem_iff.mp hz))
  refine lc_seq (K := K) (.inl (SqL.of hl)) fun A hA => ⟨fun i H' => ∃ zs, H' A = some (.lst zs) ∧ Cols K H' zs (trmT D (ys.take i)) ∧ Same H1 H', ⟨[], upd_same, by rw [List.take_zero]; exact .nil, same_new hA⟩, fun i H' _ ⟨_, _, _, e⟩ ys => ⟨e.seq, Same.tup e⟩, ?_, fun H2 ⟨zs, h1, h2, e2⟩ => ?_⟩
  · rintro i y H2 hi ⟨zs, h1, h2, e2⟩
    obtain ⟨z, hz, rfl⟩ := mget1 hi
    obtain ⟨c, hc⟩ := hin z (List.mem_of_getElem? hz)
    have tk : ys.take (i + 1) = ys.take i ++ [z] := by rw [List.take_add_one, hz]; rfl
    refine ⟨rfl, ?_⟩
    refine DG.s (Rd.sm hd1 e2) (by rw [dkI_val, hc]; rfl) ?_
    refine Need.mk (by rw [sizeLine_eq]; show 2 ≤ 16777216; decide) ?_
    refine ⟨fun t H3 e3 ht => ⟨zs, e3 _ _ h1, ?_, zs ++ [.ref t], upd_same, ?_, ?_⟩⟩
    · have l1 := Paired.length h2
      unfold trmT at l1
      rw [List.length_map, List.length_take] at l1
      rw [sizeLine_eq]
      omega
    · have ex : SameX A H3 (L2.upd H3 A (.lst (zs ++ [.ref t]))) := SameX.upd
      have et : trmT D (ys.take (i + 1)) = trmT D (ys.take i) ++ [(z, c)] := by
        unfold trmT
        rw [tk, List.map_append]
        show _ ++ [(z, (lkT D z).getD 0)] = _
        rw [hc]; rfl
      rw [et]
      exact cols_snocF ((h2.same e3).x ex (e3 _ _ h1)) ⟨t, rfl, ex.tup ht (e3 _ _ h1)⟩
    · exact Same.mut (e2.trans e3) hA
  · rw [List.length_map, List.take_length] at h2
    dsimp only [tNil]
    refine LsQ.of h1 ⟨fun u H3 e3 nu hu => ?_⟩
    have e13 := e2.trans e3
    have hC := h2.same e3
    have s0 : SlX.Slt H3 x (He.ga K "Form") dx [] := .inl ⟨e13 _ _ hx1, rfl⟩
    have hy0 : ∀ o, H3 dx = some o → (∀ ys, o ≠ .tup ys) ∧ ∀ u w, o ≠ .frz u w := fun o ho => by
      rw [e13 _ _ hdx1] at ho
      cases ho
      exact ⟨fun _ z => (nomatch z), fun _ _ z => (nomatch z)⟩
    walk_at "gx"
    refine Sto.sl cf s0 (i := 1) rfl ?_
    have o1 : SameO x dx H3 (SlX.slH H3 x (He.ga K "Form") dx (SlX.putS 1 (.ref u) [])) := SameO.slH
    have hu1 := hu.o o1 s0 hy0
    have hC1 := hC.o o1 s0 hy0
    have s1 : SlX.Slt (SlX.slH H3 x (He.ga K "Form") dx (SlX.putS 1 (.ref u) [])) x (He.ga K "Form") dx [none, some (.ref u)] := SlX.slH_slt hne
    have hd2 : SlX.slH H3 x (He.ga K "Form") dx (SlX.putS 1 (.ref u) []) dx = some (.xd []) := by unfold SlX.slH; rw [upd_ne hne, upd_same]
    have hy1 : ∀ o, SlX.slH H3 x (He.ga K "Form") dx (SlX.putS 1 (.ref u) []) dx = some o → (∀ ys, o ≠ .tup ys) ∧ ∀ u w, o ≠ .frz u w := fun o ho => by
      rw [hd2] at ho
      cases ho
      exact ⟨fun _ z => (nomatch z), fun _ _ z => (nomatch z)⟩
    walk_at "gx"
    refine Sto.sl cf s1 (i := 0) rfl ?_
    have hT : SoT (trmT D ys) := ⟨by rw [trmT_nm]; exact hp.nodup_iff.mpr nd, by rw [trmT_nm]; exact sorted_pw _ hs⟩
    refine q (trmT D ys) _ ?_ hT (fun z => ?_) ⟨cf, hT, by unfold trmT; rw [List.length_map]; exact lys, dx, u, zs, SlX.slH_slt hne, hu1.o SameO.slH s1 hy1, hC1.o SameO.slH s1 hy1⟩
    · intro b w hb
      exact ((o1.trans SameO.slH) b w ((e01.trans e13) _ _ hb) (ne_of_none hb nx) (ne_of_none hb ndx))
    · rw [trmT_lk]
      by_cases h : z ∈ ys
      · obtain ⟨c, hc⟩ := hin z h
        rw [if_pos h, hc]; rfl
      · rw [if_neg h]
        exact (lkT_none fun g => h (hp.mem_iff.mpr g)).symm
/-- a form is made -/
theorem mk_form {K : Frag} {H : Hp} {d : Addr} {D : Tms} {o : Int} {R : Addr → Hp → Prop} {E : XK} (cf : FoF K) (hd : L2.Rd H d (.dK (dkI D))) (nd : (nmT D).Nodup) (lD : D.length ≤ 60) (good : ∀ T x H', Same H H' → H x = none → SoT T → (∀ z, lkT T z = lkT D z) → Fo K H' x T o → R x H') :
    NewI K H "Form" fun x H2 => sp_Formdd_initdd K [.ref x, .ref d, .int o] H2 (fun v H3 => v = .non ∧ R x H3) E := by
  refine ⟨fun x dx h1 h2 hne => ?_⟩
  have e : Same H (upd (upd H dx (.own x)) x (.ins (He.ga K "Form") dx [])) := fun b o h => by
    rw [upd_ne (ne_of_none h h1), upd_ne (ne_of_none h h2)]; exact h
  exact ⟨H, x, dx, d, D, o, rfl, cf, h1, h2, e, upd_same, by rw [upd_ne hne, upd_same], hne, hd, nd, lD, fun T H' e' s l hf => ⟨rfl, good T x H' e' h1 s l hf⟩⟩
end S
-- deps: Rw Fm2 CsT Form_init
/-! ## questions: what they ask, how they lie on the heap -/
namespace S
open PySem PySem.Spec PyProof.Rows L2
inductive Qs where
  | atm (T : Tms) (b : Int)
  | prs (z : Str)
  | bit (z : Str) (p : Int)
  | both (q r : Qs)
  | eith (q r : Qs)
  | opp (q : Qs)
  | sure (q : Qs)
def Qs.cls : Qs → Str
  | .atm _ _ => "AtMost"
  | .prs _ => "Present"
  | .bit _ _ => "HasBit"
  | .both _ _ => "Both"
  | .eith _ _ => "Either"
  | .opp _ => "Opposite"
  | .sure _ => "Surely"
def Qs.dep : Qs → Nat
  | .both q r => max q.dep r.dep + 1
  | .eith q r => max q.dep r.dep + 1
  | .opp q => q.dep + 1
  | .sure q => q.dep + 1
  | _ => 1
/-- the names that it asks -/
def Qs.has : Qs → Str → Prop
  | .atm T _, z => z ∈ nmT T
  | .prs y, z => z = y
  | .bit y _, z => z = y
  | .both q r, z => q.has z ∨ r.has z
  | .eith q r, z => q.has z ∨ r.has z
  | .opp q, z => q.has z
  | .sure q, z => q.has z
/-- the places that it asks lie from 0 to 1000 -/
def Qs.plc : Qs → Prop
  | .bit _ p => 0 ≤ p ∧ p ≤ 1000
  | .both q r => q.plc ∧ r.plc
  | .eith q r => q.plc ∧ r.plc
  | .opp q => q.plc
  | .sure q => q.plc
  | _ => True
def rk : Option Bool → Nat
  | none => 1
  | some true => 2
  | some false => 0
def unrk : Nat → Option Bool
  | 0 => some false
  | 1 => none
  | _ => some true
def ansB (q r : Option Bool) : Option Bool := unrk (min (rk q) (rk r))
def ansE (q r : Option Bool) : Option Bool := unrk (max (rk q) (rk r))
def ansO (q : Option Bool) : Option Bool := unrk (2 - rk q)
def ansS (q : Option Bool) : Option Bool := some (decide (q = some true))
/-- what it answers of a row -/
def ans (R : Row) : Qs → Option Bool
  | .atm T b => (valT R T 0).map fun v => decide (v ≤ b)
  | .prs z => some (match lkR R z with | some (some _) => true | _ => false)
  | .bit z p => (match lkR R z with
    | some (some v) => some (decide ((v / 2 ^ p.toNat) % 2 = 1))
    | _ => none)
  | .both q r => ansB (ans R q) (ans R r)
  | .eith q r => ansE (ans R q) (ans R r)
  | .opp q => ansO (ans R q)
  | .sure q => ansS (ans R q)
def vT : Option Bool → V
  | none => .non
  | some b => .bl b
theorem IsT.o {o : Option Bool} {b : Bool} {k : Bool → Prop} (q : k (decide (o = some b))) : IsT (vT o) (.bl b) k := by
  rcases o with _ | _ | _
  · exact .non q
  · exact .bl (by cases b <;> exact q)
  · exact .bl (by cases b <;> exact q)
abbrev DFq (K : Frag) (c : Str) (fs : List Str) : Prop := DF K c ["Question"] ("parts" :: fs)
def inC (c : Str) : Prop := c ∈ csT
/-- the question at a -/
def QA (K : Frag) (H : Hp) : Addr → Qs → Prop
  | a, .atm T b => DFq K "AtMost" ["terms", "bound"] ∧ (SoT T ∧ T.length ≤ 60 ∧ ∀ t ∈ T, -(2 ^ 64) < t.2 ∧ t.2 < 2 ^ 64) ∧ inC "AtMost" ∧ ∃ dx p u ys, H a = some (.ins (He.ga K "AtMost") dx [("parts", .ref p), ("terms", .ref u), ("bound", .int b)]) ∧ TupF H u ys ∧ Cols K H ys T
  | a, .prs z => DFq K "Present" ["name"] ∧ inC "Present" ∧ ∃ dx p, H a = some (.ins (He.ga K "Present") dx [("parts", .ref p), ("name", .str z)])
  | a, .bit z i => DFq K "HasBit" ["name", "place"] ∧ inC "HasBit" ∧ ∃ dx p, H a = some (.ins (He.ga K "HasBit") dx [("parts", .ref p), ("name", .str z), ("place", .int i)])
  | a, .both q r => DFq K "Both" ["one", "other"] ∧ inC "Both" ∧ ∃ dx p b c, H a = some (.ins (He.ga K "Both") dx [("parts", .ref p), ("one", .ref b), ("other", .ref c)]) ∧ SqT K H p [.ref b, .ref c] ∧ QA K H b q ∧ QA K H c r
  | a, .eith q r => DFq K "Either" ["one", "other"] ∧ inC "Either" ∧ ∃ dx p b c, H a = some (.ins (He.ga K "Either") dx [("parts", .ref p), ("one", .ref b), ("other", .ref c)]) ∧ SqT K H p [.ref b, .ref c] ∧ QA K H b q ∧ QA K H c r
  | a, .opp q => DFq K "Opposite" ["part"] ∧ inC "Opposite" ∧ ∃ dx p b, H a = some (.ins (He.ga K "Opposite") dx [("parts", .ref p), ("part", .ref b)]) ∧ SqT K H p [.ref b] ∧ QA K H b q
  | a, .sure q => DFq K "Surely" ["part"] ∧ inC "Surely" ∧ ∃ dx p b, H a = some (.ins (He.ga K "Surely") dx [("parts", .ref p), ("part", .ref b)]) ∧ SqT K H p [.ref b] ∧ QA K H b q
theorem QA.same {K : Frag} {H H' : Hp} (e : Same H H') : ∀ {q : Qs} {a : Addr}, QA K H a q → QA K H' a q
  | .atm T b, a, ⟨d, k, c, dx, p, u, ys, h1, h2, h3⟩ => ⟨d, k, c, dx, p, u, ys, e _ _ h1, h2.same e, h3.same e⟩
  | .prs z, a, ⟨d, c, dx, p, h1⟩ => ⟨d, c, dx, p, e _ _ h1⟩
  | .bit z i, a, ⟨d, c, dx, p, h1⟩ => ⟨d, c, dx, p, e _ _ h1⟩
  | .both q r, a, ⟨d, c, dx, p, b, b2, h1, h2, h3, h4⟩ => ⟨d, c, dx, p, b, b2, e _ _ h1, Same.tup e h2, QA.same e h3, QA.same e h4⟩
  | .eith q r, a, ⟨d, c, dx, p, b, b2, h1, h2, h3, h4⟩ => ⟨d, c, dx, p, b, b2, e _ _ h1, Same.tup e h2, QA.same e h3, QA.same e h4⟩
  | .opp q, a, ⟨d, c, dx, p, b, h1, h2, h3⟩ => ⟨d, c, dx, p, b, e _ _ h1, Same.tup e h2, QA.same e h3⟩
  | .sure q, a, ⟨d, c, dx, p, b, h1, h2, h3⟩ => ⟨d, c, dx, p, b, e _ _ h1, Same.tup e h2, QA.same e h3⟩
theorem QA.x {K : Frag} {H H' : Hp} {st : Addr} {l : List V} (e : SameX st H H') (hst : H st = some (.lst l)) : ∀ {q : Qs} {a : Addr}, QA K H a q → QA K H' a q
  | .atm T b, a, ⟨d, k, c, dx, p, u, ys, h1, h2, h3⟩ => ⟨d, k, c, dx, p, u, ys, e _ _ h1 (ne_of h1 hst fun z => by cases z), h2.x e (fun o u z => by rw [hst] at z; cases z), h3.x e hst⟩
  | .prs z, a, ⟨d, c, dx, p, h1⟩ => ⟨d, c, dx, p, e _ _ h1 (ne_of h1 hst fun z => by cases z)⟩
  | .bit z i, a, ⟨d, c, dx, p, h1⟩ => ⟨d, c, dx, p, e _ _ h1 (ne_of h1 hst fun z => by cases z)⟩
  | .both q r, a, ⟨d, c, dx, p, b, b2, h1, h2, h3, h4⟩ => ⟨d, c, dx, p, b, b2, e _ _ h1 (ne_of h1 hst fun z => by cases z), e.tup h2 hst, QA.x e hst h3, QA.x e hst h4⟩
  | .eith q r, a, ⟨d, c, dx, p, b, b2, h1, h2, h3, h4⟩ => ⟨d, c, dx, p, b, b2, e _ _ h1 (ne_of h1 hst fun z => by cases z), e.tup h2 hst, QA.x e hst h3, QA.x e hst h4⟩
  | .opp q, a, ⟨d, c, dx, p, b, h1, h2, h3⟩ => ⟨d, c, dx, p, b, e _ _ h1 (ne_of h1 hst fun z => by cases z), e.tup h2 hst, QA.x e hst h3⟩
  | .sure q, a, ⟨d, c, dx, p, b, h1, h2, h3⟩ => ⟨d, c, dx, p, b, e _ _ h1 (ne_of h1 hst fun z => by cases z), e.tup h2 hst, QA.x e hst h3⟩
/-- truth(row) of a question no deeper than n -/
def sp_truth (K : Frag) (n : Nat) (c : Str) : Sp := fun vs H Q _ => ∃ (a r : Addr) (q : Qs) (R : Row), vs = [.ref a, .ref r] ∧ q.cls = c ∧ q.dep ≤ n ∧ QA K H a q ∧ q.plc ∧ L2.Rd H r (.dK (dkR R)) ∧ (∀ z, q.has z → (lkR R z).isSome) ∧ ∀ H', Same H H' → Q (vT (ans R q)) H'
theorem Qs.pos (q : Qs) : 1 ≤ q.dep := by cases q <;> simp only [Qs.dep] <;> omega
theorem sp_truth_0 {K : Frag} (c : Str) : ∀ vs H Q E, ¬ sp_truth K 0 c vs H Q E := fun vs H Q E ⟨_, _, q, _, _, _, h, _⟩ => by have := q.pos; omega
/-- a part's class has its method -/
theorem QA.dyn {K : Frag} {H : Hp} {a : Addr} {q : Qs} {m : Str} {k : Str → Prop} (h : QA K H a q) (hm : m ∉ [("parts" : Str), "terms", "bound", "name", "place", "one", "other", "part"]) (g : k q.cls) : DynM K H csT m a k := by
  have look : ∀ fs : List (Str × V), (∀ f ∈ fs, f.1 ∈ [("parts" : Str), "terms", "bound", "name", "place", "one", "other", "part"]) → fs.lookup m = none := fun fs hf => by
    induction fs with
    | nil => rfl
    | cons f fs ih =>
      obtain ⟨f1, f2⟩ := f
      rw [List.lookup_cons]
      have : (m == f1) = false := by
        rw [beq_eq_false_iff_ne]
        rintro rfl
        exact hm (hf _ (List.mem_cons_self ..))
      rw [this]
      exact ih fun g hg => hf g (List.mem_cons_of_mem _ hg)
  cases q with
  | atm T b => obtain ⟨d, _, c, dx, p, u, ys, h1, _⟩ := h; exact DynM.of c h1 g (look _ (by simp))
  | prs z => obtain ⟨d, c, dx, p, h1⟩ := h; exact DynM.of c h1 g (look _ (by simp))
  | bit z i => obtain ⟨d, c, dx, p, h1⟩ := h; exact DynM.of c h1 g (look _ (by simp))
  | both q r => obtain ⟨d, c, dx, p, b, b2, h1, _⟩ := h; exact DynM.of c h1 g (look _ (by simp))
  | eith q r => obtain ⟨d, c, dx, p, b, b2, h1, _⟩ := h; exact DynM.of c h1 g (look _ (by simp))
  | opp q => obtain ⟨d, c, dx, p, b, h1, _⟩ := h; exact DynM.of c h1 g (look _ (by simp))
  | sure q => obtain ⟨d, c, dx, p, b, h1, _⟩ := h; exact DynM.of c h1 g (look _ (by simp))
end S
-- deps: Stp Qs
/-! ## recipes: steps upon a stack of questions (its top ahead) -/
namespace S
open PySem PySem.Spec PyProof.Rows L2
/-- terms in the order in which they are stored: a dict's -/
def Stp.qs : Stp → Qs
  | .prs z => .prs z
  | .bit z p => .bit z p
  | .atm T b => .atm T b
  | _ => .prs ""
def Stp.isLeaf : Stp → Bool
  | .prs _ => true
  | .bit _ _ => true
  | .atm _ _ => true
  | _ => false
/-- how many questions lie on the stack -/
def okR : List Stp → Nat → Option Nat
  | [], n => some n
  | .and :: ss, n => if 2 ≤ n then okR ss (n - 1) else none
  | .or :: ss, n => if 2 ≤ n then okR ss (n - 1) else none
  | .not :: ss, n => if 1 ≤ n then okR ss n else none
  | .sure :: ss, n => if 1 ≤ n then okR ss n else none
  | .twice :: ss, n => if 1 ≤ n then okR ss (n + 1) else none
  | .prs _ :: ss, n => okR ss (n + 1)
  | .bit _ _ :: ss, n => okR ss (n + 1)
  | .atm _ _ :: ss, n => okR ss (n + 1)
theorem okR_app : ∀ (ss tt : List Stp) (n : Nat), okR (ss ++ tt) n = (okR ss n).bind (okR tt)
  | [], tt, n => rfl
  | s :: ss, tt, n => by
    cases s <;> simp only [List.cons_append, okR] <;> first | exact okR_app ss tt _ | (split <;> first | exact okR_app ss tt _ | rfl)
/-- steps that make the questions deeper or more -/
def costR : List Stp → Nat
  | [] => 0
  | .and :: ss => costR ss
  | .or :: ss => costR ss
  | _ :: ss => costR ss + 1
theorem costR_app : ∀ ss tt : List Stp, costR (ss ++ tt) = costR ss + costR tt
  | [], tt => (Nat.zero_add _).symm
  | s :: ss, tt => by
    have ih := costR_app ss tt
    cases s <;> simp only [List.cons_append, costR, ih] <;> omega
/-- one step upon the stack -/
def stepQ (lf : Stp → Qs) : Stp → List Qs → List Qs
  | .and, r :: q :: st => .both q r :: st
  | .or, r :: q :: st => .eith q r :: st
  | .not, q :: st => .opp q :: st
  | .sure, q :: st => .sure q :: st
  | .twice, q :: st => q :: q :: st
  | .prs z, st => lf (.prs z) :: st
  | .bit z p, st => lf (.bit z p) :: st
  | .atm T b, st => lf (.atm T b) :: st
  | _, st => st
def runQ (lf : Stp → Qs) : List Stp → List Qs → List Qs
  | [], st => st
  | s :: ss, st => runQ lf ss (stepQ lf s st)
theorem runQ_app (lf : Stp → Qs) : ∀ (ss tt : List Stp) (st : List Qs), runQ lf (ss ++ tt) st = runQ lf tt (runQ lf ss st)
  | [], _, _ => rfl
  | s :: ss, tt, st => runQ_app lf ss tt _
def maxD : List Qs → Nat
  | [] => 0
  | q :: st => max q.dep (maxD st)
theorem stepQ_len {lf : Stp → Qs} {ss : List Stp} {k : Nat} : ∀ (s : Stp) (st : List Qs), okR (s :: ss) st.length = some k → okR ss (stepQ lf s st).length = some k
  | .and, [], h => by cases h
  | .and, [_], h => by cases h
  | .and, _ :: _ :: _, h => h
  | .or, [], h => by cases h
  | .or, [_], h => by cases h
  | .or, _ :: _ :: _, h => h
  | .not, [], h => by cases h
  | .not, _ :: _, h => h
  | .sure, [], h => by cases h
  | .sure, _ :: _, h => h
  | .twice, [], h => by cases h
  | .twice, _ :: _, h => h
  | .prs _, _, h => h
  | .bit _ _, _, h => h
  | .atm _ _, _, h => h
theorem runQ_len {lf : Stp → Qs} : ∀ (ss : List Stp) (st : List Qs) (k : Nat), okR ss st.length = some k → (runQ lf ss st).length = k
  | [], st, k, h => Option.some.inj h
  | s :: ss, st, k, h => runQ_len ss _ k (stepQ_len s st h)
theorem stepQ_dep {lf : Stp → Qs} (hlf : ∀ s, (lf s).dep = 1) {ss : List Stp} {k : Nat} : ∀ (s : Stp) (st : List Qs), okR (s :: ss) st.length = some k → maxD (stepQ lf s st) + ((stepQ lf s st).length - 1) + costR ss ≤ maxD st + (st.length - 1) + costR (s :: ss)
  | .and, [], h => by cases h
  | .and, [_], h => by cases h
  | .and, r :: q :: st, h => by
    show max (max q.dep r.dep + 1) (maxD st) + (st.length + 1 - 1) + costR ss ≤ max r.dep (max q.dep (maxD st)) + (st.length + 1 + 1 - 1) + costR ss
    omega
  | .or, [], h => by cases h
  | .or, [_], h => by cases h
  | .or, r :: q :: st, h => by
    show max (max q.dep r.dep + 1) (maxD st) + (st.length + 1 - 1) + costR ss ≤ max r.dep (max q.dep (maxD st)) + (st.length + 1 + 1 - 1) + costR ss
    omega
  | .not, [], h => by cases h
  | .not, q :: st, h => by
    show max (q.dep + 1) (maxD st) + (st.length + 1 - 1) + costR ss ≤ max q.dep (maxD st) + (st.length + 1 - 1) + (costR ss + 1)
    omega
  | .sure, [], h => by cases h
  | .sure, q :: st, h => by
    show max (q.dep + 1) (maxD st) + (st.length + 1 - 1) + costR ss ≤ max q.dep (maxD st) + (st.length + 1 - 1) + (costR ss + 1)
    omega
  | .twice, [], h => by cases h
  | .twice, q :: st, h => by
    show max q.dep (max q.dep (maxD st)) + (st.length + 1 + 1 - 1) + costR ss ≤ max q.dep (maxD st) + (st.length + 1 - 1) + (costR ss + 1)
    omega
  | .prs z, [], h => by
    show max (lf (.prs z)).dep 0 + (1 - 1) + costR ss ≤ 0 + (0 - 1) + (costR ss + 1)
    rw [hlf]; omega
  | .prs z, q :: st, h => by
    have := q.pos
    show max (lf (.prs z)).dep (max q.dep (maxD st)) + (st.length + 1 + 1 - 1) + costR ss ≤ max q.dep (maxD st) + (st.length + 1 - 1) + (costR ss + 1)
    rw [hlf]; omega
  | .bit z p, [], h => by
    show max (lf (.bit z p)).dep 0 + (1 - 1) + costR ss ≤ 0 + (0 - 1) + (costR ss + 1)
    rw [hlf]; omega
  | .bit z p, q :: st, h => by
    have := q.pos
    show max (lf (.bit z p)).dep (max q.dep (maxD st)) + (st.length + 1 + 1 - 1) + costR ss ≤ max q.dep (maxD st) + (st.length + 1 - 1) + (costR ss + 1)
    rw [hlf]; omega
  | .atm T b, [], h => by
    show max (lf (.atm T b)).dep 0 + (1 - 1) + costR ss ≤ 0 + (0 - 1) + (costR ss + 1)
    rw [hlf]; omega
  | .atm T b, q :: st, h => by
    have := q.pos
    show max (lf (.atm T b)).dep (max q.dep (maxD st)) + (st.length + 1 + 1 - 1) + costR ss ≤ max q.dep (maxD st) + (st.length + 1 - 1) + (costR ss + 1)
    rw [hlf]; omega
/-- the depth of what a recipe makes -/
theorem runQ_dep {lf : Stp → Qs} (hlf : ∀ s, (lf s).dep = 1) : ∀ (ss : List Stp) (st : List Qs) (k : Nat), okR ss st.length = some k → maxD (runQ lf ss st) + ((runQ lf ss st).length - 1) ≤ maxD st + (st.length - 1) + costR ss
  | [], st, k, h => Nat.le_refl _
  | s :: ss, st, k, h => by
    have ih := runQ_dep hlf ss _ k (stepQ_len (lf := lf) s st h)
    have hs := stepQ_dep hlf s st h
    show maxD (runQ lf ss (stepQ lf s st)) + ((runQ lf ss (stepQ lf s st)).length - 1) ≤ _
    omega
/-- a recipe that is whole makes one question, no deeper than its costs -/
theorem runQ_one {lf : Stp → Qs} (hlf : ∀ s, (lf s).dep = 1) {ss : List Stp} (h : okR ss 0 = some 1) : ∃ q, runQ lf ss [] = [q] ∧ q.dep ≤ costR ss := by
  have l := runQ_len (lf := lf) ss [] 1 h
  have d := runQ_dep hlf ss [] 1 h
  match hr : runQ lf ss [], l with
  | [q], _ =>
    rw [hr] at d
    refine ⟨q, rfl, ?_⟩
    have d : max q.dep 0 + (1 - 1) ≤ 0 + (0 - 1) + costR ss := d
    omega
end S
-- deps: Rcp
/-! ## a leaf's question: its terms sorted -/
namespace S
open PySem PySem.Spec PyProof.Rows L2
open Classical in
noncomputable def srtT (T : Tms) : Tms := if h : ∃ U, SoT U ∧ ∀ z, lkT U z = lkT T z then Classical.choose h else []
/-- terms that are sorted and are told alike are these -/
theorem srtT_eq {T U : Tms} (h : SoT U) (e : ∀ z, lkT U z = lkT T z) : srtT T = U := by
  have ex : ∃ U, SoT U ∧ ∀ z, lkT U z = lkT T z := ⟨U, h, e⟩
  unfold srtT
  rw [dif_pos ex]
  have sp := Classical.choose_spec ex
  exact srt_ext sp.1 h fun z => (sp.2 z).trans (e z).symm
noncomputable def lfQ : Stp → Qs
  | .prs z => .prs z
  | .bit z p => .bit z p
  | .atm T b => .atm (srtT T) b
  | _ => .prs ""
theorem lfQ_dep (s : Stp) : (lfQ s).dep = 1 := by cases s <;> rfl
end S
-- deps: Rcp2 Rw
/-! ## sorted terms have the value of the unsorted ones; pairs of an answer -/
namespace S
open PySem PySem.Spec PyProof.Rows L2
theorem ex_sortS : ∀ L : List Str, ∃ M : List Str, M.Perm L ∧ M.Pairwise leS
  | [] => ⟨[], .refl _, .nil⟩
  | x :: L => by
    classical
    obtain ⟨M, hp, hs⟩ := ex_sortS L
    refine ⟨M.filter (fun y => decide (leS y x)) ++ x :: M.filter (fun y => !decide (leS y x)), ?_, ?_⟩
    · exact List.perm_middle.trans (.cons x ((List.filter_append_perm _ _).trans hp))
    · refine List.pairwise_append.mpr ⟨hs.filter _, List.pairwise_cons.mpr ⟨fun y hy => ?_, hs.filter _⟩, fun y hy z hz => ?_⟩
      · have := (List.mem_filter.mp hy).2
        have : ¬ leS y x := by simpa using this
        exact (leS_total x y).resolve_right this
      · have h1 : leS y x := by simpa using (List.mem_filter.mp hy).2
        rcases List.mem_cons.mp hz with rfl | hz
        · exact h1
        · have : ¬ leS z x := by simpa using (List.mem_filter.mp hz).2
          exact leS_trans h1 ((leS_total x z).resolve_right this)
theorem srtT_ok {T : Tms} (nd : (nmT T).Nodup) : SoT (srtT T) ∧ ∀ z, lkT (srtT T) z = lkT T z := by
  obtain ⟨M, hp, hs⟩ := ex_sortS (nmT T)
  have so : SoT (trmT T M) := ⟨by rw [trmT_nm]; exact hp.nodup_iff.mpr nd, by rw [trmT_nm]; exact hs⟩
  have lk : ∀ z, lkT (trmT T M) z = lkT T z := fun z => by
    rw [trmT_lk]
    by_cases h : z ∈ M
    · rw [if_pos h]
      obtain ⟨c, hc⟩ := Option.isSome_iff_exists.mp (lkT_is.mpr (hp.mem_iff.mp h))
      rw [hc]; rfl
    · rw [if_neg h]
      exact (lkT_none fun g => h (hp.mem_iff.mpr g)).symm
  rw [srtT_eq so lk]
  exact ⟨so, lk⟩
theorem nodup_mapS {α β : Type} {f : α → β} : ∀ {l : List α}, (l.map f).Nodup → l.Nodup
  | [], _ => .nil
  | x :: l, h => by
    obtain ⟨h1, h2⟩ := List.pairwise_cons.mp h
    exact List.pairwise_cons.mpr ⟨fun y hy e => h1 (f y) (List.mem_map.mpr ⟨y, hy, rfl⟩) (by rw [e]), nodup_mapS h2⟩
theorem perm_lkS {T D : Tms} (nT : (nmT T).Nodup) (nD : (nmT D).Nodup) (e : ∀ z, lkT T z = lkT D z) : T.Perm D := (List.perm_ext_iff_of_nodup (nodup_mapS nT) (nodup_mapS nD)).mpr fun t =>
  ⟨fun h => lkT_some ((e t.1) ▸ lkT_mem nT h), fun h => lkT_some ((e t.1).symm ▸ lkT_mem nD h)⟩
theorem has_leaf {s : Stp} {L : List Str} (h : s.leaf L) : ∀ z, (lfQ s).has z → z ∈ L := fun z hz => by
  cases s with
  | prs y => rw [show z = y from hz]; exact h
  | bit y p => rw [show z = y from hz]; exact h.1
  | atm T c =>
    have hz : z ∈ nmT (srtT T) := hz
    have := (perm_lkS (srtT_ok h.1).1.nd h.1 (srtT_ok h.1).2).map (fun t => t.1)
    exact h.2.1 z (this.mem_iff.mp hz)
  | _ => exact h.elim
end S
namespace S
open PySem PySem.Spec PyProof.Rows L2
def t_Questiondd_initdd (K : Frag) (E : XK) : TS :=
    dSto K "parts" (dVar 1) (dVar 0)
end S
-- fn: Question.__init__
-- law: k39
-- deps: Qs
namespace S
open PySem PySem.Spec PyProof.Rows L2
theorem SameX.tupQ {K : Frag} {H H' : Hp} {x C dy p : Addr} {as : List (Str × V)} {xs : List V} (e : SameX x H H') (hx : H x = some (.ins C dy as)) (h : SqT K H p xs) : SqT K H' p xs := by
  rcases h with (h | ⟨o, h⟩) | h
  · exact .inl (.inl (e _ _ h (ne_of h hx fun z => by cases z)))
  · exact .inl (.inr ⟨o, e _ _ h (ne_of h hx fun z => by cases z)⟩)
  · exact .inr h
def sp_Questiondd_initdd (K : Frag) : Sp := fun vs H Q _ => ∃ (x p dx : Addr) (c : Str) (ups fs : List Str) (as : List (Str × V)), vs = [.ref x, .ref p] ∧ DF K c ups ("parts" :: fs) ∧ H x = some (.ins (He.ga K c) dx as) ∧ as.length < 1000 ∧ Q .non (upd H x (.ins (He.ga K c) dx (putF "parts" (.ref p) as)))
theorem pure_Questiondd_initdd {K : Frag} (vs : List V) (H : Hp) (Q : VK) (E : XK) (h : sp_Questiondd_initdd K vs H Q E) : t_Questiondd_initdd K E { nx := fun _ H' => Q .non H', rt := Q } (start ["self", "parts"] vs) H := by
  obtain ⟨x, p, dx, c, ups, fs, as, rfl, d, hx, l, q⟩ := h
  walk_at "gx"
  exact Sto.df d hx l q (List.mem_cons_self ..)
end S
namespace S
open PySem PySem.Spec PyProof.Rows L2
def t_Bothdd_initdd_r_1 (K : Frag) (E : XK) : TS :=
    dSto K "other" (dVar 2) (dVar 0)
def t_Bothdd_initdd_r (K : Frag) (E : XK) : TS :=
    tSeq (dSto K "one" (dVar 1) (dVar 0))
    (stop (t_Bothdd_initdd_r_1 K E))
def t_Bothdd_initdd (K : Frag) (E : XK) : TS :=
    tSeq (dSup K "Both" (sp_Questiondd_initdd K) (EW E) (tCons (dTup K (tCons (dVar 1) (tCons (dVar 2) (tNil)))) (tNil)))
    (stop (t_Bothdd_initdd_r K E))
end S
-- fn: Both.__init__
-- law: k39
-- deps: Question_init
namespace S
open PySem PySem.Spec PyProof.Rows L2
def sp_Bothdd_initdd (K : Frag) : Sp := fun vs H Q _ => ∃ (H0 : Hp) (x dx a b : Addr) (q r : Qs), vs = [.ref x, .ref a, .ref b] ∧ DFq K "Both" ["one", "other"] ∧ inC "Both" ∧ H0 x = none ∧ H0 dx = none ∧ dx ≠ x ∧ Same H0 H ∧ H x = some (.ins (He.ga K "Both") dx []) ∧ QA K H0 a q ∧ QA K H0 b r ∧ ∀ p H', Same H0 H' → H' x = some (.ins (He.ga K "Both") dx [("parts", .ref p), ("one", .ref a), ("other", .ref b)]) → SqT K H' p [.ref a, .ref b] → Q .non H'
theorem pure_Bothdd_initdd {K : Frag} (vs : List V) (H : Hp) (Q : VK) (E : XK) (h : sp_Bothdd_initdd K vs H Q E) : t_Bothdd_initdd K E { nx := fun _ H' => Q .non H', rt := Q } (start ["self", "one", "other", "__class__"] vs) H := by
  obtain ⟨H0, x, dx, a, b, q, r, rfl, d, ic, nx, ndx, hne, e0, hx, ha, hb, k⟩ := h
  walk_at "gx"
  refine InsC.of hx ?_
  refine Need.mk (by rw [sizeLine_eq]; show 2 ≤ 16777216; decide) ⟨fun p H1 e1 hp => ?_⟩
  refine ⟨x, p, dx, "Both", _, _, [], rfl, d, e1 _ _ hx, by show 0 < 1000; decide, ?_⟩
  have e2 : Same H0 (upd H1 x (.ins (He.ga K "Both") dx (putF "parts" (.ref p) []))) := Same.mut (e0.trans e1) nx
  have hx2 : upd H1 x (.ins (He.ga K "Both") dx (putF "parts" (.ref p) [])) x = some (.ins (He.ga K "Both") dx [("parts", .ref p)]) := upd_same
  have hp2 := SameX.tupQ (SameX.upd (st := x) (o := .ins (He.ga K "Both") dx (putF "parts" (.ref p) []))) (e1 _ _ hx) hp
  generalize upd H1 x (.ins (He.ga K "Both") dx (putF "parts" (.ref p) [])) = H2 at *
  walk_at "gx"
  refine Sto.df d hx2 (by show 1 < 1000; decide) ?_
  have e3 : Same H0 (upd H2 x (.ins (He.ga K "Both") dx (putF "one" (.ref a) [("parts", .ref p)]))) := Same.mut e2 nx
  have hx3 : upd H2 x (.ins (He.ga K "Both") dx (putF "one" (.ref a) [("parts", .ref p)])) x = some (.ins (He.ga K "Both") dx [("parts", .ref p), ("one", .ref a)]) := upd_same
  have hp3 := SameX.tupQ (SameX.upd (st := x) (o := .ins (He.ga K "Both") dx (putF "one" (.ref a) [("parts", .ref p)]))) hx2 hp2
  generalize upd H2 x (.ins (He.ga K "Both") dx (putF "one" (.ref a) [("parts", .ref p)])) = H3 at *
  walk_at "gx"
  refine Sto.df d hx3 (by show 2 < 1000; decide) ?_
  exact k p _ (Same.mut e3 nx) upd_same (SameX.tupQ SameX.upd hx3 hp3)
theorem mk_both {K : Frag} {H : Hp} {a b : Addr} {q r : Qs} {R : Addr → Hp → Prop} {E : XK} (d : DFq K "Both" ["one", "other"]) (ic : inC "Both") (ha : QA K H a q) (hb : QA K H b r) (k : ∀ x p dx H', Same H H' → H x = none → H' x = some (.ins (He.ga K "Both") dx [("parts", .ref p), ("one", .ref a), ("other", .ref b)]) → QA K H' x (.both q r) → R x H') :
    NewI K H "Both" fun x H2 => sp_Bothdd_initdd K [.ref x, .ref a, .ref b] H2 (fun v H3 => v = .non ∧ R x H3) E := by
  refine ⟨fun x dx h1 h2 hne => ?_⟩
  have e : Same H (upd (upd H dx (.own x)) x (.ins (He.ga K "Both") dx [])) := fun b o h => by
    rw [upd_ne (ne_of_none h h1), upd_ne (ne_of_none h h2)]; exact h
  exact ⟨H, x, dx, a, b, q, r, rfl, d, ic, h1, h2, hne, e, upd_same, ha, hb, fun p H' e' hx hp => ⟨rfl, k x p dx H' e' h1 hx ⟨d, ic, dx, p, a, b, hx, hp, ha.same e', hb.same e'⟩⟩⟩
end S
namespace S
open PySem PySem.Spec PyProof.Rows L2
def t_Eitherdd_initdd_r_1 (K : Frag) (E : XK) : TS :=
    dSto K "other" (dVar 2) (dVar 0)
def t_Eitherdd_initdd_r (K : Frag) (E : XK) : TS :=
    tSeq (dSto K "one" (dVar 1) (dVar 0))
    (stop (t_Eitherdd_initdd_r_1 K E))
def t_Eitherdd_initdd (K : Frag) (E : XK) : TS :=
    tSeq (dSup K "Either" (sp_Questiondd_initdd K) (EW E) (tCons (dTup K (tCons (dVar 1) (tCons (dVar 2) (tNil)))) (tNil)))
    (stop (t_Eitherdd_initdd_r K E))
end S
-- fn: Either.__init__
-- law: k40
-- deps: Question_init
namespace S
open PySem PySem.Spec PyProof.Rows L2
def sp_Eitherdd_initdd (K : Frag) : Sp := fun vs H Q _ => ∃ (H0 : Hp) (x dx a b : Addr) (q r : Qs), vs = [.ref x, .ref a, .ref b] ∧ DFq K "Either" ["one", "other"] ∧ inC "Either" ∧ H0 x = none ∧ H0 dx = none ∧ dx ≠ x ∧ Same H0 H ∧ H x = some (.ins (He.ga K "Either") dx []) ∧ QA K H0 a q ∧ QA K H0 b r ∧ ∀ p H', Same H0 H' → H' x = some (.ins (He.ga K "Either") dx [("parts", .ref p), ("one", .ref a), ("other", .ref b)]) → SqT K H' p [.ref a, .ref b] → Q .non H'
theorem pure_Eitherdd_initdd {K : Frag} (vs : List V) (H : Hp) (Q : VK) (E : XK) (h : sp_Eitherdd_initdd K vs H Q E) : t_Eitherdd_initdd K E { nx := fun _ H' => Q .non H', rt := Q } (start ["self", "one", "other", "__class__"] vs) H := by
  obtain ⟨H0, x, dx, a, b, q, r, rfl, d, ic, nx, ndx, hne, e0, hx, ha, hb, k⟩ := h
  walk_at "gx"
  refine InsC.of hx ?_
  refine Need.mk (by rw [sizeLine_eq]; show 2 ≤ 16777216; decide) ⟨fun p H1 e1 hp => ?_⟩
  refine ⟨x, p, dx, "Either", _, _, [], rfl, d, e1 _ _ hx, by show 0 < 1000; decide, ?_⟩
  have e2 : Same H0 (upd H1 x (.ins (He.ga K "Either") dx (putF "parts" (.ref p) []))) := Same.mut (e0.trans e1) nx
  have hx2 : upd H1 x (.ins (He.ga K "Either") dx (putF "parts" (.ref p) [])) x = some (.ins (He.ga K "Either") dx [("parts", .ref p)]) := upd_same
  have hp2 := SameX.tupQ (SameX.upd (st := x) (o := .ins (He.ga K "Either") dx (putF "parts" (.ref p) []))) (e1 _ _ hx) hp
  generalize upd H1 x (.ins (He.ga K "Either") dx (putF "parts" (.ref p) [])) = H2 at *
  walk_at "gx"
  refine Sto.df d hx2 (by show 1 < 1000; decide) ?_
  have e3 : Same H0 (upd H2 x (.ins (He.ga K "Either") dx (putF "one" (.ref a) [("parts", .ref p)]))) := Same.mut e2 nx
  have hx3 : upd H2 x (.ins (He.ga K "Either") dx (putF "one" (.ref a) [("parts", .ref p)])) x = some (.ins (He.ga K "Either") dx [("parts", .ref p), ("one", .ref a)]) := upd_same
  have hp3 := SameX.tupQ (SameX.upd (st := x) (o := .ins (He.ga K "Either") dx (putF "one" (.ref a) [("parts", .ref p)]))) hx2 hp2
  generalize upd H2 x (.ins (He.ga K "Either") dx (putF "one" (.ref a) [("parts", .ref p)])) = H3 at *
  walk_at "gx"
  refine Sto.df d hx3 (by show 2 < 1000; decide) ?_
  exact k p _ (Same.mut e3 nx) upd_same (SameX.tupQ SameX.upd hx3 hp3)
theorem mk_eith {K : Frag} {H : Hp} {a b : Addr} {q r : Qs} {R : Addr → Hp → Prop} {E : XK} (d : DFq K "Either" ["one", "other"]) (ic : inC "Either") (ha : QA K H a q) (hb : QA K H b r) (k : ∀ x p dx H', Same H H' → H x = none → H' x = some (.ins (He.ga K "Either") dx [("parts", .ref p), ("one", .ref a), ("other", .ref b)]) → QA K H' x (.eith q r) → R x H') :
    NewI K H "Either" fun x H2 => sp_Eitherdd_initdd K [.ref x, .ref a, .ref b] H2 (fun v H3 => v = .non ∧ R x H3) E := by
  refine ⟨fun x dx h1 h2 hne => ?_⟩
  have e : Same H (upd (upd H dx (.own x)) x (.ins (He.ga K "Either") dx [])) := fun b o h => by
    rw [upd_ne (ne_of_none h h1), upd_ne (ne_of_none h h2)]; exact h
  exact ⟨H, x, dx, a, b, q, r, rfl, d, ic, h1, h2, hne, e, upd_same, ha, hb, fun p H' e' hx hp => ⟨rfl, k x p dx H' e' h1 hx ⟨d, ic, dx, p, a, b, hx, hp, ha.same e', hb.same e'⟩⟩⟩
end S
namespace S
open PySem PySem.Spec PyProof.Rows L2
def t_Oppositedd_initdd_r (K : Frag) (E : XK) : TS :=
    dSto K "part" (dVar 1) (dVar 0)
def t_Oppositedd_initdd (K : Frag) (E : XK) : TS :=
    tSeq (dSup K "Opposite" (sp_Questiondd_initdd K) (EW E) (tCons (dTup K (tCons (dVar 1) (tNil))) (tNil)))
    (stop (t_Oppositedd_initdd_r K E))
end S
-- fn: Opposite.__init__
-- law: k40
-- deps: Question_init
namespace S
open PySem PySem.Spec PyProof.Rows L2
def sp_Oppositedd_initdd (K : Frag) : Sp := fun vs H Q _ => ∃ (H0 : Hp) (x dx a : Addr) (q : Qs), vs = [.ref x, .ref a] ∧ DFq K "Opposite" ["part"] ∧ inC "Opposite" ∧ H0 x = none ∧ H0 dx = none ∧ dx ≠ x ∧ Same H0 H ∧ H x = some (.ins (He.ga K "Opposite") dx []) ∧ QA K H0 a q ∧ ∀ p H', Same H0 H' → H' x = some (.ins (He.ga K "Opposite") dx [("parts", .ref p), ("part", .ref a)]) → SqT K H' p [.ref a] → Q .non H'
theorem pure_Oppositedd_initdd {K : Frag} (vs : List V) (H : Hp) (Q : VK) (E : XK) (h : sp_Oppositedd_initdd K vs H Q E) : t_Oppositedd_initdd K E { nx := fun _ H' => Q .non H', rt := Q } (start ["self", "part", "__class__"] vs) H := by
  obtain ⟨H0, x, dx, a, q, rfl, d, ic, nx, ndx, hne, e0, hx, ha, k⟩ := h
  walk_at "gx"
  refine InsC.of hx ?_
  refine Need.mk (by rw [sizeLine_eq]; show 1 ≤ 16777216; decide) ⟨fun p H1 e1 hp => ?_⟩
  refine ⟨x, p, dx, "Opposite", _, _, [], rfl, d, e1 _ _ hx, by show 0 < 1000; decide, ?_⟩
  have e2 : Same H0 (upd H1 x (.ins (He.ga K "Opposite") dx (putF "parts" (.ref p) []))) := Same.mut (e0.trans e1) nx
  have hx2 : upd H1 x (.ins (He.ga K "Opposite") dx (putF "parts" (.ref p) [])) x = some (.ins (He.ga K "Opposite") dx [("parts", .ref p)]) := upd_same
  have hp2 := SameX.tupQ (SameX.upd (st := x) (o := .ins (He.ga K "Opposite") dx (putF "parts" (.ref p) []))) (e1 _ _ hx) hp
  generalize upd H1 x (.ins (He.ga K "Opposite") dx (putF "parts" (.ref p) [])) = H2 at *
  walk_at "gx"
  refine Sto.df d hx2 (by show 1 < 1000; decide) ?_
  exact k p _ (Same.mut e2 nx) upd_same (SameX.tupQ SameX.upd hx2 hp2)
theorem mk_opp {K : Frag} {H : Hp} {a : Addr} {q : Qs} {R : Addr → Hp → Prop} {E : XK} (d : DFq K "Opposite" ["part"]) (ic : inC "Opposite") (ha : QA K H a q) (k : ∀ x p dx H', Same H H' → H x = none → H' x = some (.ins (He.ga K "Opposite") dx [("parts", .ref p), ("part", .ref a)]) → QA K H' x (.opp q) → R x H') :
    NewI K H "Opposite" fun x H2 => sp_Oppositedd_initdd K [.ref x, .ref a] H2 (fun v H3 => v = .non ∧ R x H3) E := by
  refine ⟨fun x dx h1 h2 hne => ?_⟩
  have e : Same H (upd (upd H dx (.own x)) x (.ins (He.ga K "Opposite") dx [])) := fun b o h => by
    rw [upd_ne (ne_of_none h h1), upd_ne (ne_of_none h h2)]; exact h
  exact ⟨H, x, dx, a, q, rfl, d, ic, h1, h2, hne, e, upd_same, ha, fun p H' e' hx hp => ⟨rfl, k x p dx H' e' h1 hx ⟨d, ic, dx, p, a, hx, hp, ha.same e'⟩⟩⟩
end S
namespace S
open PySem PySem.Spec PyProof.Rows L2
def t_Surelydd_initdd_r (K : Frag) (E : XK) : TS :=
    dSto K "part" (dVar 1) (dVar 0)
def t_Surelydd_initdd (K : Frag) (E : XK) : TS :=
    tSeq (dSup K "Surely" (sp_Questiondd_initdd K) (EW E) (tCons (dTup K (tCons (dVar 1) (tNil))) (tNil)))
    (stop (t_Surelydd_initdd_r K E))
end S
-- fn: Surely.__init__
-- law: k40
-- deps: Question_init
namespace S
open PySem PySem.Spec PyProof.Rows L2
def sp_Surelydd_initdd (K : Frag) : Sp := fun vs H Q _ => ∃ (H0 : Hp) (x dx a : Addr) (q : Qs), vs = [.ref x, .ref a] ∧ DFq K "Surely" ["part"] ∧ inC "Surely" ∧ H0 x = none ∧ H0 dx = none ∧ dx ≠ x ∧ Same H0 H ∧ H x = some (.ins (He.ga K "Surely") dx []) ∧ QA K H0 a q ∧ ∀ p H', Same H0 H' → H' x = some (.ins (He.ga K "Surely") dx [("parts", .ref p), ("part", .ref a)]) → SqT K H' p [.ref a] → Q .non H'
theorem pure_Surelydd_initdd {K : Frag} (vs : List V) (H : Hp) (Q : VK) (E : XK) (h : sp_Surelydd_initdd K vs H Q E) : t_Surelydd_initdd K E { nx := fun _ H' => Q .non H', rt := Q } (start ["self", "part", "__class__"] vs) H := by
  obtain ⟨H0, x, dx, a, q, rfl, d, ic, nx, ndx, hne, e0, hx, ha, k⟩ := h
  walk_at "gx"
  refine InsC.of hx ?_
  refine Need.mk (by rw [sizeLine_eq]; show 1 ≤ 16777216; decide) ⟨fun p H1 e1 hp => ?_⟩
  refine ⟨x, p, dx, "Surely", _, _, [], rfl, d, e1 _ _ hx, by show 0 < 1000; decide, ?_⟩
  have e2 : Same H0 (upd H1 x (.ins (He.ga K "Surely") dx (putF "parts" (.ref p) []))) := Same.mut (e0.trans e1) nx
  have hx2 : upd H1 x (.ins (He.ga K "Surely") dx (putF "parts" (.ref p) [])) x = some (.ins (He.ga K "Surely") dx [("parts", .ref p)]) := upd_same
  have hp2 := SameX.tupQ (SameX.upd (st := x) (o := .ins (He.ga K "Surely") dx (putF "parts" (.ref p) []))) (e1 _ _ hx) hp
  generalize upd H1 x (.ins (He.ga K "Surely") dx (putF "parts" (.ref p) [])) = H2 at *
  walk_at "gx"
  refine Sto.df d hx2 (by show 1 < 1000; decide) ?_
  exact k p _ (Same.mut e2 nx) upd_same (SameX.tupQ SameX.upd hx2 hp2)
theorem mk_sure {K : Frag} {H : Hp} {a : Addr} {q : Qs} {R : Addr → Hp → Prop} {E : XK} (d : DFq K "Surely" ["part"]) (ic : inC "Surely") (ha : QA K H a q) (k : ∀ x p dx H', Same H H' → H x = none → H' x = some (.ins (He.ga K "Surely") dx [("parts", .ref p), ("part", .ref a)]) → QA K H' x (.sure q) → R x H') :
    NewI K H "Surely" fun x H2 => sp_Surelydd_initdd K [.ref x, .ref a] H2 (fun v H3 => v = .non ∧ R x H3) E := by
  refine ⟨fun x dx h1 h2 hne => ?_⟩
  have e : Same H (upd (upd H dx (.own x)) x (.ins (He.ga K "Surely") dx [])) := fun b o h => by
    rw [upd_ne (ne_of_none h h1), upd_ne (ne_of_none h h2)]; exact h
  exact ⟨H, x, dx, a, q, rfl, d, ic, h1, h2, hne, e, upd_same, ha, fun p H' e' hx hp => ⟨rfl, k x p dx H' e' h1 hx ⟨d, ic, dx, p, a, hx, hp, ha.same e'⟩⟩⟩
end S
namespace S
open PySem PySem.Spec PyProof.Rows L2
def t_Question_surely (K : Frag) (E : XK) : TS :=
    tRet (dGiv (DF K "Surely" ["Question"] ["parts", "part"]) (dMake K "Surely" (sp_Surelydd_initdd K) (EW E) (tCons (dVar 0) (tNil))))
end S
namespace S
open PySem PySem.Spec PyProof.Rows L2
def t_Questiondd_anddd (K : Frag) (E : XK) : TS :=
    tRet (dGiv (DF K "Both" ["Question"] ["parts", "one", "other"]) (dMake K "Both" (sp_Bothdd_initdd K) (EW E) (tCons (dVar 0) (tCons (dVar 1) (tNil)))))
end S
namespace S
open PySem PySem.Spec PyProof.Rows L2
def t_Questiondd_ordd (K : Frag) (E : XK) : TS :=
    tRet (dGiv (DF K "Either" ["Question"] ["parts", "one", "other"]) (dMake K "Either" (sp_Eitherdd_initdd K) (EW E) (tCons (dVar 0) (tCons (dVar 1) (tNil)))))
end S
namespace S
open PySem PySem.Spec PyProof.Rows L2
def t_Questiondd_invertdd (K : Frag) (E : XK) : TS :=
    tRet (dGiv (DF K "Opposite" ["Question"] ["parts", "part"]) (dMake K "Opposite" (sp_Oppositedd_initdd K) (EW E) (tCons (dVar 0) (tNil))))
end S
-- fn: Question.surely Question.__and__ Question.__or__ Question.__invert__
-- law: k40
-- deps: Both_init Either_init Opposite_init Surely_init
namespace S
open PySem PySem.Spec PyProof.Rows L2
def sp_Question_surely (K : Frag) : Sp := fun vs H Q _ => ∃ (a : Addr) (q : Qs), vs = [.ref a] ∧ inC "Surely" ∧ QA K H a q ∧ ∀ x H', Same H H' → H x = none → QA K H' x (.sure q) → Q (.ref x) H'
theorem pure_Question_surely {K : Frag} (vs : List V) (H : Hp) (Q : VK) (E : XK) (h : sp_Question_surely K vs H Q E) : t_Question_surely K E { nx := fun _ H' => Q .non H', rt := Q } (start ["self"] vs) H := by
  obtain ⟨a, q, rfl, ic, ha, k⟩ := h
  walk_at "gx"
  refine fun d => ?_
  exact mk_sure d ic ha fun x _ _ H1 e1 nx _ hx => k x H1 e1 nx hx
def sp_Questiondd_anddd (K : Frag) : Sp := fun vs H Q _ => ∃ (a b : Addr) (q r : Qs), vs = [.ref a, .ref b] ∧ inC "Both" ∧ QA K H a q ∧ QA K H b r ∧ ∀ x H', Same H H' → H x = none → QA K H' x (.both q r) → Q (.ref x) H'
theorem pure_Questiondd_anddd {K : Frag} (vs : List V) (H : Hp) (Q : VK) (E : XK) (h : sp_Questiondd_anddd K vs H Q E) : t_Questiondd_anddd K E { nx := fun _ H' => Q .non H', rt := Q } (start ["self", "other"] vs) H := by
  obtain ⟨a, b, q, r, rfl, ic, ha, hb, k⟩ := h
  walk_at "gx"
  refine fun d => ?_
  exact mk_both d ic ha hb fun x _ _ H1 e1 nx _ hx => k x H1 e1 nx hx
def sp_Questiondd_ordd (K : Frag) : Sp := fun vs H Q _ => ∃ (a b : Addr) (q r : Qs), vs = [.ref a, .ref b] ∧ inC "Either" ∧ QA K H a q ∧ QA K H b r ∧ ∀ x H', Same H H' → H x = none → QA K H' x (.eith q r) → Q (.ref x) H'
theorem pure_Questiondd_ordd {K : Frag} (vs : List V) (H : Hp) (Q : VK) (E : XK) (h : sp_Questiondd_ordd K vs H Q E) : t_Questiondd_ordd K E { nx := fun _ H' => Q .non H', rt := Q } (start ["self", "other"] vs) H := by
  obtain ⟨a, b, q, r, rfl, ic, ha, hb, k⟩ := h
  walk_at "gx"
  refine fun d => ?_
  exact mk_eith d ic ha hb fun x _ _ H1 e1 nx _ hx => k x H1 e1 nx hx
def sp_Questiondd_invertdd (K : Frag) : Sp := fun vs H Q _ => ∃ (a : Addr) (q : Qs), vs = [.ref a] ∧ inC "Opposite" ∧ QA K H a q ∧ ∀ x H', Same H H' → H x = none → QA K H' x (.opp q) → Q (.ref x) H'
theorem pure_Questiondd_invertdd {K : Frag} (vs : List V) (H : Hp) (Q : VK) (E : XK) (h : sp_Questiondd_invertdd K vs H Q E) : t_Questiondd_invertdd K E { nx := fun _ H' => Q .non H', rt := Q } (start ["self"] vs) H := by
  obtain ⟨a, q, rfl, ic, ha, k⟩ := h
  walk_at "gx"
  refine fun d => ?_
  exact mk_opp d ic ha fun x _ _ H1 e1 nx _ hx => k x H1 e1 nx hx
end S
namespace S
open PySem PySem.Spec PyProof.Rows L2
def t_Presentdd_initdd_r (K : Frag) (E : XK) : TS :=
    dSto K "name" (dVar 1) (dVar 0)
def t_Presentdd_initdd (K : Frag) (E : XK) : TS :=
    tSeq (dSup K "Present" (sp_Questiondd_initdd K) (EW E) (tCons (dTup K (tNil)) (tNil)))
    (stop (t_Presentdd_initdd_r K E))
end S
-- fn: Present.__init__
-- law: k40
-- deps: Question_init
namespace S
open PySem PySem.Spec PyProof.Rows L2
def sp_Presentdd_initdd (K : Frag) : Sp := fun vs H Q _ => ∃ (H0 : Hp) (x dx : Addr) (z : Str), vs = [.ref x, .str z] ∧ DFq K "Present" ["name"] ∧ inC "Present" ∧ H0 x = none ∧ dx ≠ x ∧ Same H0 H ∧ H x = some (.ins (He.ga K "Present") dx []) ∧ ∀ p H', Same H0 H' → H' x = some (.ins (He.ga K "Present") dx [("parts", .ref p), ("name", .str z)]) → Q .non H'
theorem pure_Presentdd_initdd {K : Frag} (vs : List V) (H : Hp) (Q : VK) (E : XK) (h : sp_Presentdd_initdd K vs H Q E) : t_Presentdd_initdd K E { nx := fun _ H' => Q .non H', rt := Q } (start ["self", "name", "__class__"] vs) H := by
  obtain ⟨H0, x, dx, z, rfl, d, ic, nx, hne, e0, hx, k⟩ := h
  walk_at "gx"
  refine InsC.of hx ?_
  refine Need.mk (by rw [sizeLine_eq]; show 0 ≤ 16777216; decide) ⟨fun p H1 e1 hp => ?_⟩
  refine ⟨x, p, dx, "Present", _, _, [], rfl, d, e1 _ _ hx, by show 0 < 1000; decide, ?_⟩
  have e2 : Same H0 (upd H1 x (.ins (He.ga K "Present") dx (putF "parts" (.ref p) []))) := Same.mut (e0.trans e1) nx
  have hx2 : upd H1 x (.ins (He.ga K "Present") dx (putF "parts" (.ref p) [])) x = some (.ins (He.ga K "Present") dx [("parts", .ref p)]) := upd_same
  generalize upd H1 x (.ins (He.ga K "Present") dx (putF "parts" (.ref p) [])) = H2 at *
  walk_at "gx"
  refine Sto.df d hx2 (by show 1 < 1000; decide) ?_
  exact k p _ (Same.mut e2 nx) upd_same
theorem mk_prs {K : Frag} {H : Hp} {z : Str} {R : Addr → Hp → Prop} {E : XK} (d : DFq K "Present" ["name"]) (ic : inC "Present") (k : ∀ x p dx H', Same H H' → H x = none → H' x = some (.ins (He.ga K "Present") dx [("parts", .ref p), ("name", .str z)]) → QA K H' x (.prs z) → R x H') :
    NewI K H "Present" fun x H2 => sp_Presentdd_initdd K [.ref x, .str z] H2 (fun v H3 => v = .non ∧ R x H3) E := by
  refine ⟨fun x dx h1 h2 hne => ?_⟩
  have e : Same H (upd (upd H dx (.own x)) x (.ins (He.ga K "Present") dx [])) := fun b o h => by
    rw [upd_ne (ne_of_none h h1), upd_ne (ne_of_none h h2)]; exact h
  exact ⟨H, x, dx, z, rfl, d, ic, h1, hne, e, upd_same, fun p H' e' hx => ⟨rfl, k x p dx H' e' h1 hx ⟨d, ic, dx, p, hx⟩⟩⟩
end S
namespace S
open PySem PySem.Spec PyProof.Rows L2
def t_HasBitdd_initdd_r_1 (K : Frag) (E : XK) : TS :=
    dSto K "place" (dVar 2) (dVar 0)
def t_HasBitdd_initdd_r (K : Frag) (E : XK) : TS :=
    tSeq (dSto K "name" (dVar 1) (dVar 0))
    (stop (t_HasBitdd_initdd_r_1 K E))
def t_HasBitdd_initdd (K : Frag) (E : XK) : TS :=
    tSeq (dSup K "HasBit" (sp_Questiondd_initdd K) (EW E) (tCons (dTup K (tNil)) (tNil)))
    (stop (t_HasBitdd_initdd_r K E))
end S
-- fn: HasBit.__init__
-- law: k40
-- deps: Question_init
namespace S
open PySem PySem.Spec PyProof.Rows L2
def sp_HasBitdd_initdd (K : Frag) : Sp := fun vs H Q _ => ∃ (H0 : Hp) (x dx : Addr) (z : Str) (i : Int), vs = [.ref x, .str z, .int i] ∧ DFq K "HasBit" ["name", "place"] ∧ inC "HasBit" ∧ H0 x = none ∧ dx ≠ x ∧ Same H0 H ∧ H x = some (.ins (He.ga K "HasBit") dx []) ∧ ∀ p H', Same H0 H' → H' x = some (.ins (He.ga K "HasBit") dx [("parts", .ref p), ("name", .str z), ("place", .int i)]) → Q .non H'
theorem pure_HasBitdd_initdd {K : Frag} (vs : List V) (H : Hp) (Q : VK) (E : XK) (h : sp_HasBitdd_initdd K vs H Q E) : t_HasBitdd_initdd K E { nx := fun _ H' => Q .non H', rt := Q } (start ["self", "name", "place", "__class__"] vs) H := by
  obtain ⟨H0, x, dx, z, i, rfl, d, ic, nx, hne, e0, hx, k⟩ := h
  walk_at "gx"
  refine InsC.of hx ?_
  refine Need.mk (by rw [sizeLine_eq]; show 0 ≤ 16777216; decide) ⟨fun p H1 e1 hp => ?_⟩
  refine ⟨x, p, dx, "HasBit", _, _, [], rfl, d, e1 _ _ hx, by show 0 < 1000; decide, ?_⟩
  have e2 : Same H0 (upd H1 x (.ins (He.ga K "HasBit") dx (putF "parts" (.ref p) []))) := Same.mut (e0.trans e1) nx
  have hx2 : upd H1 x (.ins (He.ga K "HasBit") dx (putF "parts" (.ref p) [])) x = some (.ins (He.ga K "HasBit") dx [("parts", .ref p)]) := upd_same
  generalize upd H1 x (.ins (He.ga K "HasBit") dx (putF "parts" (.ref p) [])) = H2 at *
  walk_at "gx"
  refine Sto.df d hx2 (by show 1 < 1000; decide) ?_
  have e3 : Same H0 (upd H2 x (.ins (He.ga K "HasBit") dx (putF "name" (.str z) [("parts", .ref p)]))) := Same.mut e2 nx
  have hx3 : upd H2 x (.ins (He.ga K "HasBit") dx (putF "name" (.str z) [("parts", .ref p)])) x = some (.ins (He.ga K "HasBit") dx [("parts", .ref p), ("name", .str z)]) := upd_same
  generalize upd H2 x (.ins (He.ga K "HasBit") dx (putF "name" (.str z) [("parts", .ref p)])) = H3 at *
  walk_at "gx"
  refine Sto.df d hx3 (by show 2 < 1000; decide) ?_
  exact k p _ (Same.mut e3 nx) upd_same
theorem mk_bit {K : Frag} {H : Hp} {z : Str} {i : Int} {R : Addr → Hp → Prop} {E : XK} (d : DFq K "HasBit" ["name", "place"]) (ic : inC "HasBit") (k : ∀ x p dx H', Same H H' → H x = none → H' x = some (.ins (He.ga K "HasBit") dx [("parts", .ref p), ("name", .str z), ("place", .int i)]) → QA K H' x (.bit z i) → R x H') :
    NewI K H "HasBit" fun x H2 => sp_HasBitdd_initdd K [.ref x, .str z, .int i] H2 (fun v H3 => v = .non ∧ R x H3) E := by
  refine ⟨fun x dx h1 h2 hne => ?_⟩
  have e : Same H (upd (upd H dx (.own x)) x (.ins (He.ga K "HasBit") dx [])) := fun b o h => by
    rw [upd_ne (ne_of_none h h1), upd_ne (ne_of_none h h2)]; exact h
  exact ⟨H, x, dx, z, i, rfl, d, ic, h1, hne, e, upd_same, fun p H' e' hx => ⟨rfl, k x p dx H' e' h1 hx ⟨d, ic, dx, p, hx⟩⟩⟩
end S
namespace S
open PySem PySem.Spec PyProof.Rows L2
def t_AtMostdd_initdd_r_1 (K : Frag) (E : XK) : TS :=
    dSto K "bound" (tOp oSub (dVar 2) (dAt K "offset" (dVar 1))) (dVar 0)
def t_AtMostdd_initdd_r (K : Frag) (E : XK) : TS :=
    tSeq (dSto K "terms" (dAt K "terms" (dVar 1)) (dVar 0))
    (stop (t_AtMostdd_initdd_r_1 K E))
def t_AtMostdd_initdd (K : Frag) (E : XK) : TS :=
    tSeq (dSup K "AtMost" (sp_Questiondd_initdd K) (EW E) (tCons (dTup K (tNil)) (tNil)))
    (stop (t_AtMostdd_initdd_r K E))
end S
-- fn: AtMost.__init__
-- law: k39
-- deps: Question_init
namespace S
open PySem PySem.Spec PyProof.Rows L2
def sp_AtMostdd_initdd (K : Frag) : Sp := fun vs H Q _ => ∃ (H0 : Hp) (x dx f : Addr) (T : Tms) (o b : Int), vs = [.ref x, .ref f, .int b] ∧ DFq K "AtMost" ["terms", "bound"] ∧ inC "AtMost" ∧ H0 x = none ∧ H0 dx = none ∧ dx ≠ x ∧ Same H0 H ∧ H x = some (.ins (He.ga K "AtMost") dx []) ∧ Fo K H0 f T o ∧ (∀ t ∈ T, -(2 ^ 64) < t.2 ∧ t.2 < 2 ^ 64) ∧ ∀ H', Same H0 H' → QA K H' x (.atm T (b - o)) → Q .non H'
theorem pure_AtMostdd_initdd {K : Frag} (vs : List V) (H : Hp) (Q : VK) (E : XK) (h : sp_AtMostdd_initdd K vs H Q E) : t_AtMostdd_initdd K E { nx := fun _ H' => Q .non H', rt := Q } (start ["self", "form", "bound", "__class__"] vs) H := by
  obtain ⟨H0, x, dx, f, T, o, b, rfl, d, ic, nx, ndx, hne, e0, hx, hf, sm, q⟩ := h
  obtain ⟨cf, so, lT, dy, u, ys, s0, hu, hC⟩ := id hf
  walk_at "gx"
  refine InsC.of hx ?_
  refine Need.mk (by rw [sizeLine_eq]; show 0 ≤ 16777216; decide) ⟨fun p H1 e1 _ => ?_⟩
  refine ⟨x, p, dx, "AtMost", _, _, [], rfl, d, e1 _ _ hx, by show 0 < 1000; decide, ?_⟩
  have e2 : Same H0 (upd H1 x (.ins (He.ga K "AtMost") dx (putF "parts" (.ref p) []))) := Same.mut (e0.trans e1) nx
  have hx2 : upd H1 x (.ins (He.ga K "AtMost") dx (putF "parts" (.ref p) [])) x = some (.ins (He.ga K "AtMost") dx [("parts", .ref p)]) := upd_same
  generalize upd H1 x (.ins (He.ga K "AtMost") dx (putF "parts" (.ref p) [])) = H2 at *
  walk_at "gx"
  refine Atr.sl cf (Same.slt e2 s0) (i := 1) rfl rfl ?_
  refine Sto.df d hx2 (by show 1 < 1000; decide) ?_
  have e3 : Same H0 (upd H2 x (.ins (He.ga K "AtMost") dx (putF "terms" (.ref u) [("parts", .ref p)]))) := Same.mut e2 nx
  have hx3 : upd H2 x (.ins (He.ga K "AtMost") dx (putF "terms" (.ref u) [("parts", .ref p)])) x = some (.ins (He.ga K "AtMost") dx [("parts", .ref p), ("terms", .ref u)]) := upd_same
  generalize upd H2 x (.ins (He.ga K "AtMost") dx (putF "terms" (.ref u) [("parts", .ref p)])) = H3 at *
  walk_at "gx"
  refine Atr.sl cf (Same.slt e3 s0) (i := 0) rfl rfl ?_
  refine Sto.df d hx3 (by show 2 < 1000; decide) ?_
  have e4 : Same H0 (upd H3 x (.ins (He.ga K "AtMost") dx (putF "bound" (.int (b - o)) [("parts", .ref p), ("terms", .ref u)]))) := Same.mut e3 nx
  exact q _ e4 ⟨d, ⟨so, lT, sm⟩, ic, dx, p, u, ys, upd_same, hu.same e4, hC.same e4⟩
theorem mk_atm {K : Frag} {H : Hp} {f : Addr} {T : Tms} {o b : Int} {R : Addr → Hp → Prop} {E : XK} (d : DFq K "AtMost" ["terms", "bound"]) (ic : inC "AtMost") (hf : Fo K H f T o) (sm : ∀ t ∈ T, -(2 ^ 64) < t.2 ∧ t.2 < 2 ^ 64) (q : ∀ x H', Same H H' → H x = none → QA K H' x (.atm T (b - o)) → R x H') :
    NewI K H "AtMost" fun x H2 => sp_AtMostdd_initdd K [.ref x, .ref f, .int b] H2 (fun v H3 => v = .non ∧ R x H3) E := by
  refine ⟨fun x dx h1 h2 hne => ?_⟩
  have e : Same H (upd (upd H dx (.own x)) x (.ins (He.ga K "AtMost") dx [])) := fun b o h => by
    rw [upd_ne (ne_of_none h h1), upd_ne (ne_of_none h h2)]; exact h
  exact ⟨H, x, dx, f, T, o, b, rfl, d, ic, h1, h2, hne, e, upd_same, hf, sm, fun H' e' hq => ⟨rfl, q x H' e' h1 hq⟩⟩
end S
-- deps: D0 D1
/-! ## loops over the keys of a dict, told at the heap without the lock -/
namespace S
open PySem PySem.Spec PyProof.Rows L2
end S
-- deps: Fkey Fm2
namespace S
open PySem PySem.Spec PyProof.Rows L2
theorem dkI_len (D : Tms) : (dkI D).length = D.length := List.length_map _
theorem put_take {T : Tms} {i : Nat} {t : Col} (nd : (nmT T).Nodup) (h : T[i]? = some t) : putT (T.take i) t.1 t.2 = T.take (i + 1) := by
  unfold putT
  rw [if_neg (fun g => take_fresh nd h (lkT_is.mp g)), List.take_add_one, h]; rfl
end S
-- deps: D0 D1
namespace S
open PySem PySem.Spec PyProof.Rows L2
/-- a loop that leaves all that stood -/
theorem for_stay {K : Frag} {p : Addr} {xs : List V} {g : TG} {tb : TS} {D : L2.Ends} {σ : L2.St} {H : Hp} (Pv : Nat → L2.St → Hp → Prop) (hx : SqA K H p xs) (h0 : Pv 0 σ H)
    (hs : ∀ i x σ H', xs[i]? = some x → Pv i σ H' → Same H H' → g x σ H' fun σ2 H2 => tb { D with nx := fun σ H'' => Pv (i + 1) σ H'' ∧ Same H H'', ct := fun σ H'' => Pv (i + 1) σ H'' ∧ Same H H'', bk := D.nx } σ2 H2) (hd : ∀ σ H', Pv xs.length σ H' → Same H H' → D.nx σ H') :
    Walk K H p (LoopR D g tb σ) := for_seq (fun i σ H' => Pv i σ H' ∧ Same H H') hx ⟨h0, Same.refl _⟩ (fun _ _ _ _ z => Same.stay z.2) (fun i x σ H' hi z => hs i x σ H' hi z.1 z.2) fun σ H' z => hd σ H' z.1 z.2
/-- a loop that leaves all that stood at an older heap H0, where the sequence stood -/
theorem for_seq0 {K : Frag} {p : Addr} {xs : List V} {g : TG} {tb : TS} {D : L2.Ends} {σ : L2.St} {H0 H : Hp} (Pv : Nat → L2.St → Hp → Prop) (hx : SqA K H0 p xs) (e0 : Same H0 H) (h0 : Pv 0 σ H) (hl : ∀ i σ H', Pv i σ H' → Same H0 H')
    (hs : ∀ i x σ H, xs[i]? = some x → Pv i σ H → g x σ H fun σ2 H2 => tb { D with nx := Pv (i + 1), ct := Pv (i + 1), bk := D.nx } σ2 H2) (hd : ∀ σ H, Pv xs.length σ H → D.nx σ H) :
    Walk K H p (LoopR D g tb σ) := by
  rcases hx with hx | hx
  · exact ⟨.inl ⟨⟨xs, e0.seq hx⟩, for_list Pv h0 (fun i σ H' hi q => (hl i σ H' q).seq hx) hs hd⟩⟩
  · exact ⟨.inr ⟨⟨xs, Same.tup e0 hx⟩, for_tup Pv h0 (fun i σ H' hi q => Same.tup (hl i σ H' q) hx) hs hd⟩⟩
/-- a loop over a list that stays in its place -/
theorem for_lst {K : Frag} {p : Addr} {xs : List V} {g : TG} {tb : TS} {D : L2.Ends} {σ : L2.St} {H : Hp} (Pv : Nat → L2.St → Hp → Prop) (hx : H p = some (.lst xs)) (h0 : Pv 0 σ H) (hl : ∀ i σ H', Pv i σ H' → H' p = some (.lst xs))
    (hs : ∀ i x σ H, xs[i]? = some x → Pv i σ H → g x σ H fun σ2 H2 => tb { D with nx := Pv (i + 1), ct := Pv (i + 1), bk := D.nx } σ2 H2) (hd : ∀ σ H, Pv xs.length σ H → D.nx σ H) :
    Walk K H p (LoopR D g tb σ) := ⟨.inl ⟨⟨xs, SqL.of hx⟩, for_list Pv h0 (fun i σ H' hi q => SqL.of (hl i σ H' q)) hs hd⟩⟩
end S
-- deps: D0 D1
/-! ## the last item of a list -/
namespace S
open PySem PySem.Spec PyProof.Rows L2
theorem set_lastV (y v : V) : ∀ xs : List V, (xs ++ [y]).set xs.length v = xs ++ [v]
  | [] => rfl
  | x :: xs => by show x :: ((xs ++ [y]).set xs.length v) = _; rw [set_lastV y v xs]; rfl
theorem ixN_last (xs : List V) (y : V) : ixN (xs ++ [y]).length (-1) = some xs.length := by
  unfold ixN
  rw [List.length_append]
  show (if (0 : Int) ≤ -1 then _ else if -((xs.length + 1 : Nat) : Int) ≤ -1 then some (-1 + ((xs.length + 1 : Nat) : Int)).toNat else none) = _
  rw [if_neg (by decide), if_pos (by omega)]
  congr 1
  omega
theorem at_m1 (xs : List V) (y : V) : atI (xs ++ [y]) (-1) = some y := by
  unfold atI
  rw [ixN_last]
  show (xs ++ [y])[xs.length]? = some y
  rw [List.getElem?_append_right (Nat.le_refl _), Nat.sub_self]; rfl
theorem drop_lastV (xs : List V) (y : V) : (xs ++ [y]).dropLast = xs := by rw [List.dropLast_append_of_ne_nil (by simp)]; simp
theorem snoc2 {α : Type} {l : List α} (h : 2 ≤ l.length) : ∃ m x y, l = m ++ [x] ++ [y] := by
  rcases List.eq_nil_or_concat l with e | ⟨m, y, e⟩
  · rw [e] at h; simp at h
  · rw [List.concat_eq_append] at e
    subst e
    rcases List.eq_nil_or_concat m with e | ⟨n, x, e⟩
    · rw [e] at h; simp at h
    · exact ⟨n, x, y, by rw [e, List.concat_eq_append]⟩
theorem snoc1 {α : Type} {l : List α} (h : 1 ≤ l.length) : ∃ m y, l = m ++ [y] := by
  rcases List.eq_nil_or_concat l with e | ⟨m, y, e⟩
  · rw [e] at h; simp at h
  · exact ⟨m, y, by rw [e, List.concat_eq_append]⟩
end S
-- deps: D0 D1
/-! ## names: one to eight small letters -/
namespace S
open PySem PySem.Spec PyProof.Rows L2
def lowC (c : Nat) : Prop := 97 ≤ c ∧ c ≤ 122
instance (c : Nat) : Decidable (lowC c) := by unfold lowC; infer_instance
theorem abc_list : ("abcdefghijklmnopqrstuvwxyz" : Str).cps.toList = (List.range 26).map fun i => i + 97 := by decide
/-- the text is a name of a column -/
def nameOk (z : Str) : Prop := (∀ c ∈ z.cps.toList, lowC c) ∧ 1 ≤ z.cps.size ∧ z.cps.size ≤ 8
instance (z : Str) : Decidable (nameOk z) := by unfold nameOk; infer_instance
theorem nameOk.ok {z : Str} (h : nameOk z) : PyData.strOk z = true := by
  unfold PyData.strOk
  rw [← Array.all_toList]
  exact List.all_eq_true.mpr fun c hc => by have := (h.1 c hc).2; exact decide_eq_true (by omega)
theorem inV_strs (z : Str) : ∀ L : List Str, inV (.str z) (L.map V.str) = decide (z ∈ L)
  | [] => rfl
  | x :: L => by
    show (eqV (.str x) (.str z) || inV (.str z) (L.map V.str)) = _
    rw [inV_strs z L]
    show ((x == z) || _) = _
    by_cases h : x = z
    · subst h; simp
    · have h2 : ¬ z = x := fun e => h e.symm
      simp [h, h2]
theorem flat_strs : ∀ L : List Str, (L.map V.str).all flatV = true
  | [] => rfl
  | _ :: L => by show (true && (L.map V.str).all flatV) = true; rw [flat_strs L]; rfl
end S
-- deps: D0 D1
/-! ## a text of signs joined by nothing -/
namespace S
open PySem PySem.Spec PyProof.Rows L2
theorem txj_app (a y : Str) : (a ++ y).cps.toList = a.cps.toList ++ y.cps.toList := by
  rw [PySem.Str.cps_append, Array.toList_append]
end S
namespace S
open PySem PySem.Spec PyProof.Rows L2
def t__law_draw_7 (K : Frag) (E : XK) : TS :=
    tRet (tOp oMod (tCB cInt (tCons (dVar 6) (tNil))) (dVar 2))
def t__law_draw_6 (K : Frag) (E : XK) : TS :=
    tSeq (tAsg (tOp oMod (tCB cInt (tCons (tOp oMulA (dVar 6) (dVar 6)) (tNil))) (tC (.int 999983))) (gName 6))
    (stop (t__law_draw_7 K E))
def t__law_draw_5 (K : Frag) (E : XK) : TS :=
    tSeq (tAsg (tOp oMod (tCB cInt (tCons (tOp (oAdd K) (tOp oMulA (dVar 6) (dVar 6)) (dVar 4)) (tNil))) (tC (.int 1000003))) (gName 6))
    (stop (t__law_draw_6 K E))
def t__law_draw_4 (K : Frag) (E : XK) : TS :=
    tSeq (tAsg (tOp oMod (tCB cInt (tCons (tOp (oAdd K) (tOp oMulA (dVar 4) (tOp (oAdd K) (tOp (oAdd K) (tC (.int 48271)) (tOp oMulA (tC (.int 7919)) (tOp (oIx K) (dVar 1) (tC (.int 1))))) (tOp oMulA (tC (.int 104729)) (tOp (oIx K) (dVar 1) (tC (.int 0)))))) (tOp oMulA (tC (.int 611953)) (tOp (oIx K) (dVar 1) (tC (.int 3))))) (tNil))) (tC (.int 2147483647))) (gName 6))
    (stop (t__law_draw_5 K E))
def t__law_draw_3 (K : Frag) (E : XK) : TS :=
    tSeq (dIfS (dCmpT (oEq K) (tOp (oIx K) (dVar 1) (tC (.int 3))) (tC (.int 2))) (tSeq (tAsg (tOp oFdiv (dVar 4) (tC (.int 1000))) (gSub (dVar 1) (tC (.int 2)) oSet))
    (tSeq (dIfS (dCmpT (oEq K) (tOp (oIx K) (dVar 1) (tC (.int 2))) (tC (.int 0))) (tAsg (tC (.int 0)) (gSub (dVar 1) (tC (.int 1)) oSet)) (tNext))
    (tSeq (tAsg (tOp oMod (tCB cInt (tCons (dVar 4) (tNil))) (tC (.int 1000))) (gName 5))
    (tRet (tOp oMod (tCB cInt (tCons (dVar 5) (tNil))) (dVar 2)))))) (tNext))
    (stop (t__law_draw_4 K E))
def t__law_draw_2 (K : Frag) (E : XK) : TS :=
    tSeq (tAsg (tCB cInt (tCons (tOp (oIx K) (dVar 1) (tC (.int 2))) (tNil))) (gName 4))
    (stop (t__law_draw_3 K E))
def t__law_draw_1 (K : Frag) (E : XK) : TS :=
    tSeq (tAsg (tOp oSub (tOp (oIx K) (dVar 1) (tC (.int 1))) (tC (.int 1))) (gSub (dVar 1) (tC (.int 1)) oSet))
    (stop (t__law_draw_2 K E))
def t__law_draw (K : Frag) (E : XK) : TS :=
    tSeq (dIfS (dCmpT (oEq K) (tOp (oIx K) (dVar 1) (tC (.int 1))) (tC (.int 0))) (tSeq (tAsg (tOp (oIx K) (dVar 1) (tC (.int 0))) (gName 3))
    (tSeq (tAsg (tOp (oAdd K) (dVar 3) (tC (.int 1))) (gSub (dVar 1) (tC (.int 0)) oSet))
    (tSeq (dIfS (dCmpT oGe (dVar 3) (tCB (cLen K) (tCons (dVar 0) (tNil)))) (tRet (tC (.int 0))) (tNext))
    (tSeq (tAsg (tCB cAbs (tCons (tOp (oIx K) (dVar 0) (dVar 3)) (tNil))) (gSub (dVar 1) (tC (.int 2)) oSet))
    (tSeq (tAsg (tCB cInt (tCons (tOp oLt (tOp (oIx K) (dVar 0) (dVar 3)) (tC (.int 0))) (tNil))) (gSub (dVar 1) (tC (.int 3)) oSet))
    (tSeq (tAsg (tC (.int 12)) (gSub (dVar 1) (tC (.int 1)) oSet))
    (dIfS (dCmpT oGe (tOp (oIx K) (dVar 1) (tC (.int 2))) (tOp oPow (tC (.int 10)) (tC (.int 18)))) (tSeq (tAsg (tC (.int 60)) (gSub (dVar 1) (tC (.int 1)) oSet))
    (tAsg (tC (.int 2)) (gSub (dVar 1) (tC (.int 3)) oSet))) (tNext)))))))) (tNext))
    (stop (t__law_draw_1 K E))
end S
-- fn: _law_draw
-- law: k03
-- deps: D0
namespace S
open PySem PySem.Spec PyProof.Rows L2
theorem pure__law_draw {K : Frag} (vs : List V) (H : Hp) (Q : VK) (E : XK) (h : sp__law_draw K vs H Q E) : t__law_draw K E { nx := fun _ H' => Q .non H', rt := Q } (start ["_law_script", "_law_state", "_law_base", "_law_here", "_law_number", "_law_digit", "_law_mixed"] vs) H := by
  obtain ⟨a, st, base, rfl, ⟨⟨ns, hscr⟩, l, hl, A, B, N, k, rfl, hA, hN, hd⟩, hb, q⟩ := h

  have hsl : ∀ H1, SameX st H H1 → SqL K H1 a (ns.map V.int) := fun H1 e => (hscr.x e).sl
  have fin : ∀ (x : Int) (l : List V) (H1 : Hp), SameX st H H1 → H1 st = some (.lst l) → DrawSt l → Q (.int (x % base)) H1 := fun x l H1 e h d =>
    q _ _ (Int.emod_nonneg _ (by omega)) (Int.emod_lt_of_pos _ hb) ⟨⟨ns, hscr.x e⟩, l, h, d⟩ e
  have tail : ∀ (A B N k : Int) (w : Option V) (H' : Hp), 0 ≤ A → 0 ≤ N → (k = 2 ∨ N < 10 ^ 18) → SameX st H H' → H' st = some (.lst [.int A, .int B, .int N, .int k]) →
      t__law_draw_1 K E { nx := fun _ H' => Q .non H', rt := Q } [some (.ref a), some (.ref st), some (.int base), w, none, none, none] H' := by
    intro A B N k w H' hA hN hk hs hl
    have h1000 : 0 ≤ N / 1000 := Int.ediv_nonneg hN (by decide)
    walk_at "gx"
    refine ifd (fun hk2 => ?_) (fun hk2 => ?_)
    · walk_at "gx"
      refine ifd (fun hz => ?_) (fun hz => ?_)
      · walk_at "gx"
        exact fin _ _ _ (hs.trans (SameX.upd.trans (SameX.upd.trans SameX.upd))) upd_same ⟨_, _, _, _, rfl, hA, h1000, .inl rfl⟩
      · walk_at "gx"
        exact fin _ _ _ (hs.trans (SameX.upd.trans SameX.upd)) upd_same ⟨_, _, _, _, rfl, hA, h1000, .inr (.inl hk2)⟩
    · have hN2 : N < 10 ^ 18 := by omega
      walk_at "gx"
      exact fin _ _ _ (hs.trans SameX.upd) upd_same ⟨_, _, _, _, rfl, hA, hN, .inr (.inr hN2)⟩
  walk_at "go"
  refine ifd (fun hB => ?_) (fun hB => ?_)
  · walk_at "go"
    rw [List.length_map]
    refine ifd (fun hlen => ?_) (fun hlen => ?_)
    · exact q 0 _ (Int.le_refl 0) hb ⟨⟨ns, hscr.x SameX.upd⟩, _, upd_same, _, _, _, _, rfl, by omega, hN, hd⟩ SameX.upd
    · obtain ⟨x, hx⟩ := at_ints (ns := ns) hA (by omega)
      walk_at "go"
      refine ifd (fun hbig => ?_) (fun hbig => ?_)
      · walk_at "go"
        exact ⟨tail _ _ _ _ _ _ (by omega) (by omega) (.inl rfl) (SameX.upd.trans (SameX.upd.trans (SameX.upd.trans (SameX.upd.trans (SameX.upd.trans SameX.upd))))) upd_same⟩
      · have hb2 : ¬ ((10 : Int) ^ 18 ≤ x.natAbs) := hbig
        exact ⟨tail _ _ _ _ _ _ (by omega) (by omega) (.inr (by omega)) (SameX.upd.trans (SameX.upd.trans (SameX.upd.trans SameX.upd))) upd_same⟩
  · exact ⟨tail A B N k _ H hA hN (by omega) (SameX.refl _ _) hl⟩
end S
-- deps: D0 D1
/-! ## lists of numbers made, joined, comprehended -/
namespace S
open PySem PySem.Spec PyProof.Rows L2
section
variable {K : Frag} {H : Hp} {Q : VK}
end
end S
namespace S
open PySem PySem.Spec PyProof.Rows L2
def t__law_names_b2 (K : Frag) (E : XK) : TS :=
    tAsg (tOp (oAdd K) (dVar 6) (tOp (oIx K) (dVar 3) (dCall (sp__law_draw K) (EW E) (tCons (dVar 0) (tCons (dVar 1) (tCons (tC (.int 26)) (tNil))))))) (gName 6)
def t__law_names_b3_1 (K : Frag) (E : XK) : TS :=
    dIfS (dAnd (dCmpT (oEq K) (dVar 9) (tC (.str ""))) (dCmpT (oNin K) (dVar 10) (dVar 4))) (tAsg (dVar 10) (gName 9)) (tNext)
def t__law_names_b3 (K : Frag) (E : XK) : TS :=
    tSeq (tAsg (tOp (oAdd K) (dVar 6) (tOp (oIx K) (dVar 3) (tOp oMod (tCB cInt (tCons (tOp (oAdd K) (dVar 8) (dVar 7)) (tNil))) (tC (.int 26))))) (gName 10))
    (stop (t__law_names_b3_1 K E))
def t__law_names_b1_5 (K : Frag) (E : XK) : TS :=
    tDrop (dML K mApp (dVar 4) (tCons (dVar 9) (tNil)))
def t__law_names_b1_4 (K : Frag) (E : XK) : TS :=
    tSeq (dFor (iRng (tCons (tC (.int 26)) (tNil))) (gName 7) (t__law_names_b3 K E))
    (stop (t__law_names_b1_5 K E))
def t__law_names_b1_3 (K : Frag) (E : XK) : TS :=
    tSeq (tAsg (tC (.str "")) (gName 9))
    (stop (t__law_names_b1_4 K E))
def t__law_names_b1_2 (K : Frag) (E : XK) : TS :=
    tSeq (tAsg (dCall (sp__law_draw K) (EW E) (tCons (dVar 0) (tCons (dVar 1) (tCons (tC (.int 26)) (tNil))))) (gName 8))
    (stop (t__law_names_b1_3 K E))
def t__law_names_b1_1 (K : Frag) (E : XK) : TS :=
    tSeq (dFor (iRng (tCons (dCall (sp__law_draw K) (EW E) (tCons (dVar 0) (tCons (dVar 1) (tCons (tC (.int 8)) (tNil))))) (tNil))) (gName 7) (t__law_names_b2 K E))
    (stop (t__law_names_b1_2 K E))
def t__law_names_b1 (K : Frag) (E : XK) : TS :=
    tSeq (tAsg (tC (.str "")) (gName 6))
    (stop (t__law_names_b1_1 K E))
def t__law_names_3 (K : Frag) (E : XK) : TS :=
    tRet (dVar 4)
def t__law_names_2 (K : Frag) (E : XK) : TS :=
    tSeq (dFor (iRng (tCons (dVar 2) (tNil))) (gName 5) (t__law_names_b1 K E))
    (stop (t__law_names_3 K E))
def t__law_names_1 (K : Frag) (E : XK) : TS :=
    tSeq (tAsg (dLst (tNil)) (gName 4))
    (stop (t__law_names_2 K E))
def t__law_names (K : Frag) (E : XK) : TS :=
    tSeq (tAsg (tC (.str "abcdefghijklmnopqrstuvwxyz")) (gName 3))
    (stop (t__law_names_1 K E))
end S
-- fn: _law_names
-- law: k36
-- deps: Nm Txj _law_draw Li D0 D1
namespace S
open PySem PySem.Spec PyProof.Rows L2
def lowL (i : Nat) : Str := ⟨#[i + 97]⟩
theorem word_inj {x : Str} {i j : Nat} (h : x ++ lowL i = x ++ lowL j) : i = j := by
  have e := congrArg (fun z : Str => z.cps.toList) h
  simp only [txj_app] at e
  have e2 := List.append_cancel_left e
  have e3 : [i + 97] = [j + 97] := e2
  injection e3 with e3 _
  omega
theorem word_ok {x : Str} {i : Nat} (hx : ∀ c ∈ x.cps.toList, lowC c) (l : x.cps.size ≤ 7) (hi : i < 26) : nameOk (x ++ lowL i) := by
  have e : (x ++ lowL i).cps.toList = x.cps.toList ++ [i + 97] := txj_app _ _
  have ls : (x ++ lowL i).cps.size = x.cps.size + 1 := by
    rw [← Array.length_toList, e, List.length_append, Array.length_toList]; rfl
  refine ⟨fun c hc => ?_, by omega, by omega⟩
  rw [e] at hc
  rcases List.mem_append.mp hc with hc | hc
  · exact hx c hc
  · rw [List.mem_singleton.mp hc]; unfold lowC; omega
theorem nodup_lenG {α : Type} [DecidableEq α] : ∀ (L S : List α), L.Nodup → (∀ z ∈ L, z ∈ S) → L.length ≤ S.length
  | [], _, _, _ => Nat.zero_le _
  | x :: L, S, nd, hs => by
    obtain ⟨h1, h2⟩ := List.pairwise_cons.mp nd
    have hx := hs x (List.mem_cons_self ..)
    have ih := nodup_lenG L (S.erase x) h2 fun z hz => (List.mem_erase_of_ne (fun e => h1 z hz e.symm)).mpr (hs z (List.mem_cons_of_mem _ hz))
    have e := List.length_erase_of_mem hx
    have := List.length_pos_of_mem hx
    rw [List.length_cons]
    omega
theorem word_new {x : Str} {L : List Str} (t : Nat) (l : L.length < 26) : ∃ j, j < 26 ∧ x ++ lowL ((t + j) % 26) ∉ L := by
  refine Classical.byContradiction fun hn => ?_
  have all : ∀ w ∈ (List.range 26).map (fun j => x ++ lowL ((t + j) % 26)), w ∈ L := fun w hw => by
    obtain ⟨j, hj, rfl⟩ := List.mem_map.mp hw
    exact Classical.byContradiction fun h => hn ⟨j, List.mem_range.mp hj, h⟩
  have nd : ((List.range 26).map (fun j => x ++ lowL ((t + j) % 26))).Nodup := by
    refine List.pairwise_map.mpr ((List.pairwise_lt_range (n := 26)).imp_of_mem fun {a b} ha hb hab => ?_)
    have h1 := List.mem_range.mp ha
    have h2 := List.mem_range.mp hb
    intro e
    have := word_inj e
    omega
  have := nodup_lenG _ _ nd all
  rw [List.length_map, List.length_range] at this
  omega
def sp__law_names (K : Frag) : Sp := fun vs H Q _ => ∃ (a st : Addr) (n : Int), vs = [.ref a, .ref st, .int n] ∧ Ctx K H a st ∧ 0 ≤ n ∧ n ≤ 20 ∧
  ∀ (p : Addr) (L : List Str) (H' : Hp), H p = none → H' p = some (.lst (L.map V.str)) → (L.length : Int) = n → L.Nodup → (∀ z ∈ L, nameOk z) → Ctx K H' a st → SameX st H H' → Q (.ref p) H'
def s36n (a st p : Addr) (n : Int) (k5 k6 k7 k8 k9 k10 : Option V) : L2.St := [some (.ref a), some (.ref st), some (.int n), some (.str "abcdefghijklmnopqrstuvwxyz"), some (.ref p), k5, k6, k7, k8, k9, k10]
theorem pure__law_names {K : Frag} (vs : List V) (H : Hp) (Q : VK) (E : XK) (h : sp__law_names K vs H Q E) : t__law_names K E { nx := fun _ H' => Q .non H', rt := Q } (start ["_law_script", "_law_state", "_law_count", "_law_letters", "_law_names_here", "_law_k", "_law_head", "_law_j", "_law_tail", "_law_name", "_law_word"] vs) H := by
  obtain ⟨a, st, n, rfl, hc, n0, n1, q⟩ := h
  walk_at "gx"
  refine ⟨fun p np => ?_⟩
  have c1 := hc.same (same_new (o := .lst ([] : List V)) np)
  have pst := ctx_ne hc np
  walk_at "gx"
  refine for_rng (fun i σ H3 => ∃ (L : List Str) (k5 k6 k7 k8 k9 k10 : Option V), σ = s36n a st p n k5 k6 k7 k8 k9 k10 ∧ H3 p = some (.lst (L.map V.str)) ∧ L.length = i ∧ L.Nodup ∧ (∀ z ∈ L, nameOk z) ∧ Ctx K H3 a st ∧ SameX st H H3) ⟨[], none, none, none, none, none, none, rfl, upd_same, rfl, .nil, (fun _ z => nomatch z), c1, Same.x (same_new np)⟩ ?_ ?_
  · rintro i σ H3 hi ⟨L, k5, k6, k7, k8, k9, k10, rfl, hL, lL, nd, ok, c3, e3⟩
    walk_at "gx"
    refine ⟨a, st, _, rfl, c3, by decide, fun d H4 d0 d1 c4 e4 => ?_⟩
    have d1 : d < 8 := d1
    have hL4 := e4 _ _ hL pst
    refine Need.mk (by omega) ?_
    show LoopR _ _ _ _ (Itr 0 d.toNat) H4
    refine for_rng (fun j σ H5 => ∃ (x : Str) (k7 : Option V), σ = s36n a st p n (some (.int i)) (some (.str x)) k7 k8 k9 k10 ∧ (∀ c ∈ x.cps.toList, lowC c) ∧ x.cps.size = j ∧ H5 p = some (.lst (L.map V.str)) ∧ Ctx K H5 a st ∧ SameX st H H5) ⟨"", k7, rfl, (fun _ z => nomatch z), rfl, hL4, c4, e3.trans e4⟩ ?_ ?_
    · rintro j σ H5 hj ⟨x, k7, rfl, hx, lx, hL5, c5, e5⟩
      walk_at "gx"
      refine ⟨a, st, _, rfl, c5, by decide, fun r H6 r0 r1 c6 e6 => ?_⟩
      have r1 : r < 26 := r1
      obtain ⟨r, rfl⟩ := Int.eq_ofNat_of_zero_le r0
      refine Need.mk (by rw [sizeLine_eq]; show 26 ≤ 16777216; decide) ?_
      refine ⟨⟨r + 97, ?_, ?_⟩⟩
      · rw [abc_list]
        refine atI_nat (j := r) ?_
        rw [List.getElem?_map, List.getElem?_range (by omega)]; rfl
      have lx2 : x.length = j := lx
      refine Need.mk (by rw [sizeLine_eq, lx2]; show j + 1 ≤ _; omega) ?_
      have ew : (x ++ (⟨#[r + 97]⟩ : Str)).cps.toList = x.cps.toList ++ [r + 97] := txj_app _ _
      refine ⟨x ++ ⟨#[r + 97]⟩, _, rfl, fun c hc => ?_, ?_, e6 _ _ hL5 pst, c6, e5.trans e6⟩
      · rw [ew] at hc
        rcases List.mem_append.mp hc with hc | hc
        · exact hx c hc
        · rw [List.mem_singleton.mp hc]; unfold lowC; omega
      · rw [← Array.length_toList, ew, List.length_append, Array.length_toList, lx]; rfl
    · rintro σ H5 ⟨x, k7, rfl, hx, lx, hL5, c5, e5⟩
      walk_at "gx"
      refine ⟨a, st, _, rfl, c5, by decide, fun r H6 r0 r1 c6 e6 => ?_⟩
      have r1 : r < 26 := r1
      obtain ⟨r, rfl⟩ := Int.eq_ofNat_of_zero_le r0
      have hL6 := e6 _ _ hL5 pst
      have e56 := e5.trans e6
      have lx7 : x.cps.size ≤ 7 := by omega
      walk_at "gx"
      refine for_rng (fun j σ H7 => ∃ (nm : Str) (k7 k10 : Option V), σ = s36n a st p n (some (.int i)) (some (.str x)) k7 (some (.int r)) (some (.str nm)) k10 ∧ H7 = H6 ∧ ((nm = "" ∧ ∀ g, g < j → x ++ lowL ((r + g) % 26) ∈ L) ∨ (nm ∉ L ∧ ∃ g, g < 26 ∧ nm = x ++ lowL g))) ⟨"", k7, k10, rfl, rfl, .inl ⟨rfl, fun g hg => absurd hg (Nat.not_lt_zero _)⟩⟩ ?_ ?_
      · rintro j σ H7 hj ⟨nm, k7, k10, rfl, rfl, hnm⟩
        walk_at "gx"
        have hj : (j : Int) < 26 := hj
        have eq : ((r : Int) + (j : Int)) % 26 = (((r + j) % 26 : Nat) : Int) := by omega
        refine ⟨⟨(r + j) % 26 + 97, ?_, ?_⟩⟩
        · show atI _ (((r : Int) + (j : Int)) % 26) = _
          rw [eq, abc_list]
          refine atI_nat ?_
          rw [List.getElem?_map, List.getElem?_range (Nat.mod_lt _ (by decide))]; rfl
        have lx2 : x.length ≤ 7 := lx7
        refine Need.mk (by rw [sizeLine_eq]; show x.length + 1 ≤ _; omega) ?_
        walk_at "gx"
        refine ifd (fun h1 => ?_) (fun h1 => ?_)
        · walk_at "gx"
          refine Need.mk ⟨rfl, flat_strs _⟩ ?_
          rw [inV_strs]
          refine ifn (fun h2 => ?_) (fun h2 => ?_)
          · exact ⟨_, _, _, rfl, rfl, .inr ⟨h2, (r + j) % 26, Nat.mod_lt _ (by decide), rfl⟩⟩
          · refine ⟨nm, _, _, rfl, rfl, ?_⟩
            rcases hnm with ⟨e, hall⟩ | hnm
            · refine .inl ⟨e, fun g hg => ?_⟩
              rcases Nat.lt_or_ge g j with hgj | hgj
              · exact hall g hgj
              · have : g = j := by omega
                rw [this]; exact h2
            · exact .inr hnm
        · refine ⟨nm, _, _, rfl, rfl, ?_⟩
          rcases hnm with ⟨e, _⟩ | hnm
          · exact absurd e h1
          · exact .inr hnm
      · rintro σ H7 ⟨nm, k7, k10, rfl, rfl, hnm⟩
        have lm : (L.map V.str).length < sizeLine := by rw [List.length_map, sizeLine_eq]; omega
        have hnm2 : nm ∉ L ∧ ∃ g, g < 26 ∧ nm = x ++ lowL g := by
          rcases hnm with ⟨_, hall⟩ | h
          · obtain ⟨j, hj, hn⟩ := word_new (x := x) (L := L) r (by omega)
            exact absurd (hall j hj) hn
          · exact h
        obtain ⟨hn, g, hg, en⟩ := hnm2
        walk_at "gx"
        refine ⟨L ++ [nm], _, _, _, _, _, _, rfl, by rw [upd_same, List.map_append]; rfl, by rw [List.length_append, lL]; rfl, ?_, fun z hz => ?_, c6.mut hc np, ?_⟩
        · refine List.pairwise_append.mpr ⟨nd, List.pairwise_singleton _ _, fun u hu v hv => ?_⟩
          rw [List.mem_singleton.mp hv]
          exact fun z => hn (z ▸ hu)
        · rcases List.mem_append.mp hz with hz | hz
          · exact ok z hz
          · rw [List.mem_singleton.mp hz, en]; exact word_ok hx lx7 hg
        · intro b o hb hn
          rw [upd_ne (ne_of_none hb np)]
          exact e56 _ _ hb hn
  · rintro σ H3 ⟨L, k5, k6, k7, k8, k9, k10, rfl, hL, lL, nd, ok, c3, e3⟩
    walk_at "gx"
    exact q p L H3 np hL (by omega) nd ok c3 e3
end S
-- deps: _law_names Fm2 Fstay
namespace S
open PySem PySem.Spec PyProof.Rows L2
theorem len_sub {D : Tms} {L : List Str} (nd : (nmT D).Nodup) (h : ∀ y ∈ nmT D, y ∈ L) : D.length ≤ L.length := by
  have := nodup_lenG (nmT D) L nd h
  unfold nmT at this
  rw [List.length_map] at this
  exact this
end S
namespace S
open PySem PySem.Spec PyProof.Rows L2
def t__law_question_b2 (K : Frag) (E : XK) : TS :=
    tAsg (tOp (oIxD K) (dVar 5) (tC (.int 1))) (gSub (dVar 4) (tOp (oIxD K) (dVar 5) (tC (.int 0))) oSetD)
def t__law_question_b1 (K : Frag) (E : XK) : TS :=
    dIfS (dCmpT (oEq K) (tOp (oIxD K) (dVar 2) (tC (.int 0))) (tC (.str "and"))) (tSeq (tAsg (dML K mPop (dVar 1) tNil) (gName 3))
    (tAsg (tOp (oDynB K csT "__and__" (fun _ => sp_Questiondd_anddd K) E oAnd) (tOp (oIxD K) (dVar 1) (tUn uNeg (tC (.int 1)))) (dVar 3)) (gSub (dVar 1) (tUn uNeg (tC (.int 1))) oSetD))) (dIfS (dCmpT (oEq K) (tOp (oIxD K) (dVar 2) (tC (.int 0))) (tC (.str "or"))) (tSeq (tAsg (dML K mPop (dVar 1) tNil) (gName 3))
    (tAsg (tOp (oDynB K csT "__or__" (fun _ => sp_Questiondd_ordd K) E oOr) (tOp (oIxD K) (dVar 1) (tUn uNeg (tC (.int 1)))) (dVar 3)) (gSub (dVar 1) (tUn uNeg (tC (.int 1))) oSetD))) (dIfS (dCmpT (oEq K) (tOp (oIxD K) (dVar 2) (tC (.int 0))) (tC (.str "not"))) (tAsg (tUn (uDyn K csT "__invert__" (fun _ => sp_Questiondd_invertdd K) E) (tOp (oIxD K) (dVar 1) (tUn uNeg (tC (.int 1))))) (gSub (dVar 1) (tUn uNeg (tC (.int 1))) oSetD)) (dIfS (dCmpT (oEq K) (tOp (oIxD K) (dVar 2) (tC (.int 0))) (tC (.str "sure"))) (tAsg (dDyn0 K csT "surely" (fun _ => sp_Question_surely K) (EW E) (tOp (oIxD K) (dVar 1) (tUn uNeg (tC (.int 1))))) (gSub (dVar 1) (tUn uNeg (tC (.int 1))) oSetD)) (dIfS (dCmpT (oEq K) (tOp (oIxD K) (dVar 2) (tC (.int 0))) (tC (.str "twice"))) (tDrop (dML K mApp (dVar 1) (tCons (tOp (oIxD K) (dVar 1) (tUn uNeg (tC (.int 1)))) (tNil)))) (dIfS (dCmpT (oEq K) (tOp (oIxD K) (dVar 2) (tC (.int 0))) (tC (.str "present"))) (tDrop (dML K mApp (dVar 1) (tCons (dGiv (DF K "Present" ["Question"] ["parts", "name"]) (dMake K "Present" (sp_Presentdd_initdd K) (EW E) (tCons (tOp (oIxD K) (dVar 2) (tC (.int 1))) (tNil)))) (tNil)))) (dIfS (dCmpT (oEq K) (tOp (oIxD K) (dVar 2) (tC (.int 0))) (tC (.str "bit"))) (tDrop (dML K mApp (dVar 1) (tCons (dGiv (DF K "HasBit" ["Question"] ["parts", "name", "place"]) (dMake K "HasBit" (sp_HasBitdd_initdd K) (EW E) (tCons (tOp (oIxD K) (dVar 2) (tC (.int 1))) (tCons (tOp (oIxD K) (dVar 2) (tC (.int 2))) (tNil))))) (tNil)))) (tSeq (tAsg (dNewK) (gName 4))
    (tSeq (dFor (iSeq K (tOp (oIxD K) (dVar 2) (tC (.int 1)))) (gName 5) (t__law_question_b2 K E))
    (tDrop (dML K mApp (dVar 1) (tCons (dGiv (DF K "AtMost" ["Question"] ["parts", "terms", "bound"]) (dMake K "AtMost" (sp_AtMostdd_initdd K) (EW E) (tCons (dGiv (CF K "Form" ["offset", "terms"]) (dMake K "Form" (spD (sp_Formdd_initdd K) [V.int 0]) (EW E) (tCons (dVar 4) (tNil)))) (tCons (tOp (oIxD K) (dVar 2) (tC (.int 2))) (tNil))))) (tNil))))))))))))
def t__law_question_2 (K : Frag) (E : XK) : TS :=
    tRet (tOp (oIxD K) (dVar 1) (tUn uNeg (tC (.int 1))))
def t__law_question_1 (K : Frag) (E : XK) : TS :=
    tSeq (dFor (iSeq K (dVar 0)) (gName 2) (t__law_question_b1 K E))
    (stop (t__law_question_2 K E))
def t__law_question (K : Frag) (E : XK) : TS :=
    tSeq (tAsg (dLst (tNil)) (gName 1))
    (stop (t__law_question_1 K E))
end S
-- fn: _law_question
-- law: k41
-- dict: _law_factors
-- dynS: __and__ __or__ __invert__ surely
-- deps: Rcp2 Question_ops Present_init HasBit_init AtMost_init Fkey2 Fstay LastV _law_some_pre
namespace S
open PySem PySem.Spec PyProof.Rows L2
/-- all classes of questions are reached -/
def allC : Prop := inC "AtMost" ∧ inC "Present" ∧ inC "HasBit" ∧ inC "Both" ∧ inC "Either" ∧ inC "Opposite" ∧ inC "Surely"
/-- the question of a recipe (the stack on the heap: the reversed runQ) -/
def sp__law_question (K : Frag) : Sp := fun vs H Q _ => ∃ (B : Hp) (r : Addr) (xs : List Addr) (ss : List Stp) (L : List Str), vs = [.ref r] ∧ allC ∧ H r = some (.lst (xs.map V.ref)) ∧ Paired (fun s x => StA K B H x s) ss xs ∧ okR ss 0 = some 1 ∧ ss.length ≤ 1000 ∧ (∀ s ∈ ss, s.isLeaf = true → s.leaf L) ∧ L.length ≤ 60 ∧
  ∀ (x : Addr) (q : Qs) (H' : Hp), runQ lfQ ss [] = [q] → Same H H' → QA K H' x q → Q (.ref x) H'
theorem okR_at {ss : List Stp} {i : Nat} {s : Stp} (h : okR ss 0 = some 1) (hs : ss[i]? = some s) : okR (s :: ss.drop (i + 1)) (runQ lfQ (ss.take i) []).length = some 1 := by
  have e : ss = ss.take i ++ s :: ss.drop (i + 1) := by
    obtain ⟨l, g⟩ := List.getElem?_eq_some_iff.mp hs
    rw [← g, ← List.drop_eq_getElem_cons l, List.take_append_drop]
  have h2 := h
  rw [e, okR_app] at h2
  obtain ⟨k, hk, h3⟩ := Option.bind_eq_some_iff.mp h2
  rw [runQ_len (lf := lfQ) (ss.take i) [] k hk]
  exact h3
theorem runQ_at {ss : List Stp} {i : Nat} {s : Stp} (hs : ss[i]? = some s) : runQ lfQ (ss.take (i + 1)) [] = stepQ lfQ s (runQ lfQ (ss.take i) []) := by
  rw [List.take_add_one, hs]
  show runQ lfQ (ss.take i ++ [s]) [] = _
  rw [runQ_app]; rfl
theorem pr_snocL {α β : Type} {P : α → β → Prop} {x : α} : ∀ {xs : List α} {ys : List β}, Paired P (xs ++ [x]) ys → ∃ zs y, ys = zs ++ [y] ∧ Paired P xs zs ∧ P x y
  | [], _, .cons h .nil => ⟨[], _, rfl, .nil, h⟩
  | a :: xs, _, .cons h t => by
    obtain ⟨zs, y, e, p, q⟩ := pr_snocL t
    exact ⟨_ :: zs, y, by rw [e]; rfl, .cons h p, q⟩
theorem pr_snocR {α β : Type} {P : α → β → Prop} : ∀ {xs : List α} {ys : List β} {x : α} {y : β}, Paired P xs ys → P x y → Paired P (xs ++ [x]) (ys ++ [y])
  | _, _, _, _, .nil, h => .cons h .nil
  | _, _, _, _, .cons a t, h => .cons a (pr_snocR t h)
theorem pr_atL {α β : Type} {P : α → β → Prop} : ∀ {xs : List α} {ys : List β} {i : Nat} {y : β}, Paired P xs ys → ys[i]? = some y → ∃ x, xs[i]? = some x ∧ P x y
  | _, _, i, _, .nil, h => by simp at h
  | _, _, 0, _, .cons h _, e => by
    rw [List.getElem?_cons_zero] at e
    cases e
    exact ⟨_, rfl, h⟩
  | _, _, i + 1, _, .cons _ t, e => by
    rw [List.getElem?_cons_succ] at e
    obtain ⟨x, hx, hp⟩ := pr_atL t e
    exact ⟨x, by rw [List.getElem?_cons_succ]; exact hx, hp⟩
theorem QA.insm {K : Frag} {H : Hp} {a : Addr} {q : Qs} {p : Prop} (h : QA K H a q) (g : p) : InsM K H csT a p := by
  cases q with
  | atm T b => obtain ⟨d, _, c, dx, p, u, ys, h1, _⟩ := h; exact InsM.of c h1 g
  | prs z => obtain ⟨d, c, dx, p, h1⟩ := h; exact InsM.of c h1 g
  | bit z i => obtain ⟨d, c, dx, p, h1⟩ := h; exact InsM.of c h1 g
  | both q r => obtain ⟨d, c, dx, p, b, b2, h1, _⟩ := h; exact InsM.of c h1 g
  | eith q r => obtain ⟨d, c, dx, p, b, b2, h1, _⟩ := h; exact InsM.of c h1 g
  | opp q => obtain ⟨d, c, dx, p, b, h1, _⟩ := h; exact InsM.of c h1 g
  | sure q => obtain ⟨d, c, dx, p, b, h1, _⟩ := h; exact InsM.of c h1 g
/-- the stack of questions -/
structure Qk (K : Frag) (H W : Hp) (st : Addr) (as : List Addr) (qs : List Qs) : Prop where
  e : Same H W
  hst : W st = some (.lst (as.map V.ref))
  hq : Paired (fun q a => QA K W a q) qs as
section
variable {K : Frag} {H W : Hp} {st : Addr} {as : List Addr} {qs : List Qs}
theorem Qk.same {W' : Hp} (b : Qk K H W st as qs) (e : Same W W') : Qk K H W' st as qs := ⟨b.e.trans e, e _ _ b.hst, Paired.mapP b.hq fun _ _ h => QA.same e h⟩
/-- another stack -/
theorem Qk.put {as' : List Addr} {qs' : List Qs} {l : List V} (b : Qk K H W st as qs) (n : H st = none) (el : l = as'.map V.ref) (hq : Paired (fun q a => QA K W a q) qs' as') : Qk K H (upd W st (.lst l)) st as' qs' := by
  subst el
  exact ⟨Same.mut b.e n, upd_same, Paired.mapP hq fun _ _ h => QA.x SameX.upd b.hst h⟩
theorem Qk.len (b : Qk K H W st as qs) : as.length = qs.length := (Paired.length b.hq).symm
end
theorem pure__law_question {K : Frag} (vs : List V) (H : Hp) (Q : VK) (E : XK) (h : sp__law_question K vs H Q E) : t__law_question K E { nx := fun _ H' => Q .non H', rt := Q } (start ["_law_recipe_here", "_law_stack", "_law_step", "_law_last", "_law_factors", "_law_term"] vs) H := by
  obtain ⟨B, r, xs, ss, L, rfl, ⟨iA, iP, iB, iBo, iE, iO, iS⟩, hr, hS, ok, lss, lf, lL, q⟩ := h
  walk_at "gx"
  refine ⟨fun st nst => ?_⟩
  have f1 := same_new (o := .lst ([] : List V)) nst
  have hst1 : upd H st (.lst ([] : List V)) st = some (.lst []) := upd_same
  generalize upd H st (.lst ([] : List V)) = H1 at *
  walk_at "gx"
  refine for_seq0 (K := K) (fun i σ W => ∃ (as : List Addr) (qs : List Qs) (x2 x3 x4 x5 : Option V), σ = [some (.ref r), some (.ref st), x2, x3, x4, x5] ∧ Qk K H W st as qs ∧ runQ lfQ (ss.take i) [] = qs.reverse ∧ qs.length ≤ i) (.inl (SqL.of hr)) f1 ⟨[], [], _, _, _, _, rfl, ⟨f1, hst1, .nil⟩, rfl, Nat.le_refl _⟩ (fun i σ H' ⟨_, _, _, _, _, _, _, b, _⟩ => b.e) ?_ ?_
  · rintro i v σ W hi ⟨as, qs, x2, x3, x4, x5, rfl, b, hrun, lq⟩
    obtain ⟨x, hx, rfl⟩ := mget1 hi
    obtain ⟨s, hs, hA⟩ := pr_atL hS hx
    have hA := hA.same b.e
    have okA := okR_at ok hs
    have rA := runQ_at hs
    have hleaf := lf s (List.mem_of_getElem? hs)
    rw [hrun] at okA rA
    rw [List.length_reverse] at okA
    have li : i < 1000 := by have := (List.getElem?_eq_some_iff.mp hs).1; omega
    have las := b.len
    have hst := b.hst
    -- the end of each way
    have fin : ∀ {D : L2.Ends} {as' : List Addr} {qs' : List Qs} {W' : Hp} {x3 x4 x5 : Option V}, (D.nx = fun σ W => ∃ (as : List Addr) (qs : List Qs) (x2 x3 x4 x5 : Option V), σ = [some (.ref r), some (.ref st), x2, x3, x4, x5] ∧ Qk K H W st as qs ∧ runQ lfQ (ss.take (i + 1)) [] = qs.reverse ∧ qs.length ≤ i + 1) → Qk K H W' st as' qs' → stepQ lfQ s qs.reverse = qs'.reverse → qs'.length ≤ i + 1 → D.nx [some (.ref r), some (.ref st), some (.ref x), x3, x4, x5] W' := fun e b h1 h2 => by
      rw [e]
      exact ⟨_, _, _, _, _, _, rfl, b, rA.trans h1, h2⟩
    cases s with
    | and =>
      have h2 : 2 ≤ qs.length := by
        by_cases h : 2 ≤ qs.length
        · exact h
        · exfalso
          have okA : (if 2 ≤ qs.length then okR (ss.drop (i + 1)) (qs.length - 1) else none) = some 1 := okA
          rw [if_neg h] at okA; cases okA
      obtain ⟨qs0, q1, q2, rfl⟩ := snoc2 h2
      obtain ⟨as1, a2, rfl, hq1, ha2⟩ := pr_snocL b.hq
      obtain ⟨as0, a1, rfl, hq0, ha1⟩ := pr_snocL hq1
      have hst : W st = some (.lst (((as0 ++ [a1]).map V.ref) ++ [.ref a2])) := by rw [hst, List.map_append]; rfl
      walk_at "gx"
      refine S.At.of (at_m1 _ _) ?_
      rw [drop_lastV]
      dsimp only
      have b1 := b.put (as' := as0 ++ [a1]) (qs' := qs0 ++ [q1]) (l := (as0 ++ [a1]).map V.ref) nst rfl hq1
      have hb2 := QA.x (SameX.upd (o := .lst ((as0 ++ [a1]).map V.ref))) b.hst ha2
      have hb1 := QA.x (SameX.upd (o := .lst ((as0 ++ [a1]).map V.ref))) b.hst ha1
      generalize upd W st (.lst ((as0 ++ [a1]).map V.ref)) = W1 at *
      clear hst
      have h1 : W1 st = some (.lst (as0.map V.ref ++ [.ref a1])) := by rw [b1.hst, List.map_append]; rfl
      walk_at "gx"
      refine S.At.of (at_m1 _ _) ?_
      refine QA.dyn hb1 (by decide) (QA.insm hb2 ?_)
      refine ⟨a1, a2, q1, q2, rfl, iBo, hb1, hb2, fun x1 W2 e2 nx hx1 => ?_⟩
      have b2 := b1.same e2
      obtain ⟨as', y, ey, hq9, _⟩ := pr_snocL b2.hq
      have ey := List.append_inj' ey rfl
      obtain ⟨rfl, ey⟩ := ey
      have h2 := e2 _ _ h1
      walk_at "gx"
      refine Pl.of (ixN_last _ _) ?_
      rw [List.length_map, ← List.length_map (f := V.ref), set_lastV]
      have b3 := b2.put (as' := as0 ++ [x1]) (qs' := qs0 ++ [.both q1 q2]) (l := as0.map V.ref ++ [.ref x1]) nst (by rw [List.map_append]; rfl) (pr_snocR hq9 hx1)
      exact fin rfl b3 (by simp [stepQ]) (by simp at lq ⊢; omega)
    | or =>
      have h2 : 2 ≤ qs.length := by
        by_cases h : 2 ≤ qs.length
        · exact h
        · exfalso
          have okA : (if 2 ≤ qs.length then okR (ss.drop (i + 1)) (qs.length - 1) else none) = some 1 := okA
          rw [if_neg h] at okA; cases okA
      obtain ⟨qs0, q1, q2, rfl⟩ := snoc2 h2
      obtain ⟨as1, a2, rfl, hq1, ha2⟩ := pr_snocL b.hq
      obtain ⟨as0, a1, rfl, hq0, ha1⟩ := pr_snocL hq1
      have hst : W st = some (.lst (((as0 ++ [a1]).map V.ref) ++ [.ref a2])) := by rw [hst, List.map_append]; rfl
      walk_at "gx"
      refine S.At.of (at_m1 _ _) ?_
      rw [drop_lastV]
      dsimp only
      have b1 := b.put (as' := as0 ++ [a1]) (qs' := qs0 ++ [q1]) (l := (as0 ++ [a1]).map V.ref) nst rfl hq1
      have hb2 := QA.x (SameX.upd (o := .lst ((as0 ++ [a1]).map V.ref))) b.hst ha2
      have hb1 := QA.x (SameX.upd (o := .lst ((as0 ++ [a1]).map V.ref))) b.hst ha1
      generalize upd W st (.lst ((as0 ++ [a1]).map V.ref)) = W1 at *
      clear hst
      have h1 : W1 st = some (.lst (as0.map V.ref ++ [.ref a1])) := by rw [b1.hst, List.map_append]; rfl
      walk_at "gx"
      refine S.At.of (at_m1 _ _) ?_
      refine QA.dyn hb1 (by decide) (QA.insm hb2 ?_)
      refine ⟨a1, a2, q1, q2, rfl, iE, hb1, hb2, fun x1 W2 e2 nx hx1 => ?_⟩
      have b2 := b1.same e2
      obtain ⟨as', y, ey, hq9, _⟩ := pr_snocL b2.hq
      have ey := List.append_inj' ey rfl
      obtain ⟨rfl, ey⟩ := ey
      have h2 := e2 _ _ h1
      walk_at "gx"
      refine Pl.of (ixN_last _ _) ?_
      rw [List.length_map, ← List.length_map (f := V.ref), set_lastV]
      have b3 := b2.put (as' := as0 ++ [x1]) (qs' := qs0 ++ [.eith q1 q2]) (l := as0.map V.ref ++ [.ref x1]) nst (by rw [List.map_append]; rfl) (pr_snocR hq9 hx1)
      exact fin rfl b3 (by simp [stepQ]) (by simp at lq ⊢; omega)
    | not =>
      have h1 : 1 ≤ qs.length := by
        by_cases h : 1 ≤ qs.length
        · exact h
        · exfalso
          have okA : (if 1 ≤ qs.length then okR (ss.drop (i + 1)) qs.length else none) = some 1 := okA
          rw [if_neg h] at okA; cases okA
      obtain ⟨qs0, q1, rfl⟩ := snoc1 h1
      obtain ⟨as0, a1, rfl, hq0, ha1⟩ := pr_snocL b.hq
      have hst : W st = some (.lst (as0.map V.ref ++ [.ref a1])) := by rw [hst, List.map_append]; rfl
      walk_at "gx"
      refine S.At.of (at_m1 _ _) ?_
      refine QA.dyn ha1 (by decide) ?_
      refine ⟨a1, q1, rfl, iO, ha1, fun x1 W2 e2 nx hx1 => ?_⟩
      have b2 := b.same e2
      obtain ⟨as', y, ey, hq9, _⟩ := pr_snocL b2.hq
      obtain ⟨rfl, ey⟩ := List.append_inj' ey rfl
      have h2 := e2 _ _ hst
      walk_at "gx"
      refine Pl.of (ixN_last _ _) ?_
      rw [set_lastV]
      have b3 := b2.put (as' := as0 ++ [x1]) (qs' := qs0 ++ [.opp q1]) (l := as0.map V.ref ++ [.ref x1]) nst (by rw [List.map_append]; rfl) (pr_snocR hq9 hx1)
      exact fin rfl b3 (by simp [stepQ]) (by simp at lq ⊢; omega)
    | sure =>
      have h1 : 1 ≤ qs.length := by
        by_cases h : 1 ≤ qs.length
        · exact h
        · exfalso
          have okA : (if 1 ≤ qs.length then okR (ss.drop (i + 1)) qs.length else none) = some 1 := okA
          rw [if_neg h] at okA; cases okA
      obtain ⟨qs0, q1, rfl⟩ := snoc1 h1
      obtain ⟨as0, a1, rfl, hq0, ha1⟩ := pr_snocL b.hq
      have hst : W st = some (.lst (as0.map V.ref ++ [.ref a1])) := by rw [hst, List.map_append]; rfl
      walk_at "gx"
      refine S.At.of (at_m1 _ _) ?_
      refine QA.dyn ha1 (by decide) ?_
      refine ⟨a1, q1, rfl, iS, ha1, fun x1 W2 e2 nx hx1 => ?_⟩
      have b2 := b.same e2
      obtain ⟨as', y, ey, hq9, _⟩ := pr_snocL b2.hq
      obtain ⟨rfl, ey⟩ := List.append_inj' ey rfl
      have h2 := e2 _ _ hst
      walk_at "gx"
      refine Pl.of (ixN_last _ _) ?_
      rw [set_lastV]
      have b3 := b2.put (as' := as0 ++ [x1]) (qs' := qs0 ++ [.sure q1]) (l := as0.map V.ref ++ [.ref x1]) nst (by rw [List.map_append]; rfl) (pr_snocR hq9 hx1)
      exact fin rfl b3 (by simp [stepQ]) (by simp at lq ⊢; omega)
    | twice =>
      have h1 : 1 ≤ qs.length := by
        by_cases h : 1 ≤ qs.length
        · exact h
        · exfalso
          have okA : (if 1 ≤ qs.length then okR (ss.drop (i + 1)) (qs.length + 1) else none) = some 1 := okA
          rw [if_neg h] at okA; cases okA
      obtain ⟨qs0, q1, rfl⟩ := snoc1 h1
      obtain ⟨as0, a1, rfl, hq0, ha1⟩ := pr_snocL b.hq
      have hst : W st = some (.lst (as0.map V.ref ++ [.ref a1])) := by rw [hst, List.map_append]; rfl
      walk_at "gx"
      refine S.At.of (at_m1 _ _) ?_
      refine Ls.of hst (Need.mk (by rw [List.length_append, List.length_map, sizeLine_eq]; simp at lq las; simp; omega) ?_)
      have b3 := b.put (as' := as0 ++ [a1] ++ [a1]) (qs' := qs0 ++ [q1] ++ [q1]) (l := as0.map V.ref ++ [.ref a1] ++ [.ref a1]) nst (by rw [List.map_append, List.map_append]; rfl) (pr_snocR b.hq ha1)
      exact fin rfl b3 (by simp [stepQ]) (by simp at lq ⊢; omega)
    | prs z =>
      walk_at "gx"
      refine fun d => ?_
      refine Rd.st hA (S.At.of rfl ?_)
      refine mk_prs d iP fun x1 _ _ W2 e2 nx _ hx1 => ?_
      have b2 := b.same e2
      refine Ls.of b2.hst (Need.mk (by rw [List.length_map, sizeLine_eq]; omega) ?_)
      have b3 := b2.put (as' := as ++ [x1]) (qs' := qs ++ [.prs z]) (l := as.map V.ref ++ [.ref x1]) nst (by rw [List.map_append]; rfl) (pr_snocR b2.hq hx1)
      exact fin rfl b3 (by simp [stepQ, lfQ]) (by simp at lq ⊢; omega)
    | bit z p =>
      walk_at "gx"
      refine fun d => ?_
      refine Rd.st hA (S.At.of rfl ?_)
      refine Rd.st hA (S.At.of rfl ?_)
      refine mk_bit d iB fun x1 _ _ W2 e2 nx _ hx1 => ?_
      have b2 := b.same e2
      refine Ls.of b2.hst (Need.mk (by rw [List.length_map, sizeLine_eq]; omega) ?_)
      have b3 := b2.put (as' := as ++ [x1]) (qs' := qs ++ [.bit z p]) (l := as.map V.ref ++ [.ref x1]) nst (by rw [List.map_append]; rfl) (pr_snocR b2.hq hx1)
      exact fin rfl b3 (by simp [stepQ, lfQ]) (by simp at lq ⊢; omega)
    | atm T c =>
      obtain ⟨l, ys, hA, _, hl, hC⟩ := hA
      obtain ⟨ndT, inT, smT, _⟩ := hleaf rfl
      have lT : T.length ≤ 60 := by
        have := len_sub ndT inT
        omega
      walk_at "gx"
      refine ⟨fun d nd => ?_⟩
      have g1 := same_new (o := .dK []) nd
      have hd : upd W d (.dK []) d = some (.dK []) := upd_same
      generalize upd W d (.dK []) = W1 at *
      have hA1 := Same.tup g1 hA
      walk_at "gx"
      refine for_seq0 (K := K) (H0 := W) (fun j σ W' => ∃ (x5 : Option V), σ = [some (.ref r), some (.ref st), some (.ref x), x3, some (.ref d), x5] ∧ Same W W' ∧ W' d = some (.dK (dkI (T.take j)))) (.inl (SqL.of hl)) g1 ⟨_, rfl, g1, by rw [List.take_zero]; exact hd⟩ (fun j σ H' ⟨_, _, e, _⟩ => e) ?_ ?_
      · rintro j v σ W' hj ⟨x5, rfl, e, hd'⟩
        obtain ⟨t, ht, ad, rfl, hv⟩ := cols_atF hC hj
        have hv' := Same.tup e hv
        walk_at "gx"
        refine StD.s hd' (by rw [dkI_len, List.length_take, sizeLine_eq]; omega) ?_
        rw [dkI_put, put_take ndT ht]
        exact ⟨_, rfl, Same.mut e nd, upd_same⟩
      · rintro σ W' ⟨x5, rfl, e, hd'⟩
        rw [← hC.length, List.take_length] at hd'
        have b1 := b.same e
        have hA2 := Same.tup e hA
        walk_at "gx"
        refine IsL.of b1.hst ?_
        refine fun df => ?_
        refine fun cf => ?_
        refine mk_form cf (.inl hd') ndT lT fun T2 f W2 e2 _ sT hT fT => ?_
        have hA3 := Same.tup e2 hA2
        refine Rd.st hA3 (S.At.of rfl ?_)
        have big : ∀ t ∈ T2, -(2 ^ 64) < t.2 ∧ t.2 < 2 ^ 64 := fun t ht => by
          have := lkT_mem sT.nd ht
          rw [hT] at this
          have := smT _ (lkT_some this)
          dsimp only at this
          omega
        refine mk_atm df iA fT big fun x1 W3 e3 _ hx1 => ?_
        have b2 := (b1.same e2).same e3
        refine Ls.of b2.hst (Need.mk (by rw [List.length_map, sizeLine_eq]; omega) ?_)
        have b3 := b2.put (as' := as ++ [x1]) (qs' := qs ++ [.atm T2 (c - 0)]) (l := as.map V.ref ++ [.ref x1]) nst (by rw [List.map_append]; rfl) (pr_snocR b2.hq hx1)
        exact fin rfl b3 (by simp [stepQ, lfQ, srtT_eq sT hT]) (by simp at lq ⊢; omega)
  · rintro σ W ⟨as, qs, x2, x3, x4, x5, rfl, b, hrun, lq⟩
    have lx : (xs.map V.ref).length = ss.length := by rw [List.length_map]; exact (Paired.length hS).symm
    rw [lx, List.take_length] at hrun
    have l1 := runQ_len (lf := lfQ) ss [] 1 ok
    rw [hrun, List.length_reverse] at l1
    obtain ⟨qs0, q1, rfl⟩ := snoc1 (l := qs) (by omega)
    have : qs0 = [] := by
      rw [List.length_append] at l1
      exact List.eq_nil_of_length_eq_zero (by have : [q1].length = 1 := rfl; omega)
    subst this
    obtain ⟨as0, a1, rfl, hq0, ha1⟩ := pr_snocL b.hq
    have hst := b.hst
    rw [List.map_append] at hst
    walk_at "gx"
    refine S.At.of (at_m1 _ _) ?_
    exact q a1 q1 W hrun b.e ha1
end S
-- deps: Srt _law_question
/-! ## the names of a recipe's steps -/
namespace S
open PySem PySem.Spec PyProof.Rows L2
def Stp.nm : Stp → Str → Prop
  | .prs y, z => z = y
  | .bit y _, z => z = y
  | .atm T _, z => z ∈ nmT T
  | _, _ => False
theorem nm_leaf {s : Stp} {L : List Str} (h : s.leaf L) (z : Str) : (lfQ s).has z ↔ s.nm z := by
  cases s with
  | prs y => exact Iff.rfl
  | bit y p => exact Iff.rfl
  | atm T c =>
    show z ∈ nmT (srtT T) ↔ z ∈ nmT T
    exact ((perm_lkS (srtT_ok h.1).1.nd h.1 (srtT_ok h.1).2).map (fun t => t.1)).mem_iff
  | _ => exact h.elim
theorem runQ_has {L : List Str} (z : Str) : ∀ (ss : List Stp) (st : List Qs) (k : Nat), okR ss st.length = some k → (∀ s ∈ ss, s.isLeaf = true → s.leaf L) → ((∃ q ∈ runQ lfQ ss st, q.has z) ↔ (∃ q ∈ st, q.has z) ∨ ∃ s ∈ ss, s.nm z)
  | [], st, k, _, _ => by
    constructor
    · intro h; exact .inl h
    · rintro (h | ⟨s, hs, _⟩)
      · exact h
      · cases hs
  | s :: ss, st, k, ok, lf => by
    have ih := runQ_has z ss (stepQ lfQ s st) k (stepQ_len s st ok) fun t ht => lf t (List.mem_cons_of_mem _ ht)
    have hl := lf s List.mem_cons_self
    have key : (∃ q ∈ stepQ lfQ s st, q.has z) ↔ (∃ q ∈ st, q.has z) ∨ s.nm z := by
      cases s with
      | and => match st, ok with
        | [], h => cases h
        | [_], h => cases h
        | r :: q :: st, _ => simp only [stepQ, List.mem_cons, exists_eq_or_imp, Qs.has, Stp.nm, or_false]; exact (or_congr_left or_comm).trans or_assoc
      | or => match st, ok with
        | [], h => cases h
        | [_], h => cases h
        | r :: q :: st, _ => simp only [stepQ, List.mem_cons, exists_eq_or_imp, Qs.has, Stp.nm, or_false]; exact (or_congr_left or_comm).trans or_assoc
      | not => match st, ok with
        | [], h => cases h
        | q :: st, _ => simp [stepQ, Qs.has, Stp.nm]
      | sure => match st, ok with
        | [], h => cases h
        | q :: st, _ => simp [stepQ, Qs.has, Stp.nm]
      | twice => match st, ok with
        | [], h => cases h
        | q :: st, _ => simp [stepQ, Stp.nm]
      | prs y =>
        simp only [stepQ, List.mem_cons, exists_eq_or_imp]
        rw [nm_leaf (hl rfl), Or.comm]
      | bit y p =>
        simp only [stepQ, List.mem_cons, exists_eq_or_imp]
        rw [nm_leaf (hl rfl), Or.comm]
      | atm T b =>
        simp only [stepQ, List.mem_cons, exists_eq_or_imp]
        rw [nm_leaf (hl rfl), Or.comm]
    show (∃ q ∈ runQ lfQ ss (stepQ lfQ s st), q.has z) ↔ _
    rw [ih, key]
    constructor
    · rintro ((h | h) | ⟨t, ht, h⟩)
      · exact .inl h
      · exact .inr ⟨s, List.mem_cons_self, h⟩
      · exact .inr ⟨t, List.mem_cons_of_mem _ ht, h⟩
    · rintro (h | ⟨t, ht, h⟩)
      · exact .inl (.inl h)
      · rcases List.mem_cons.mp ht with rfl | ht
        · exact .inl (.inr h)
        · exact .inr ⟨t, ht, h⟩
theorem runQ_nm {L : List Str} {ss : List Stp} {q : Qs} (ok : okR ss 0 = some 1) (lf : ∀ s ∈ ss, s.isLeaf = true → s.leaf L) (rq : runQ lfQ ss [] = [q]) (z : Str) : q.has z ↔ ∃ s ∈ ss, s.nm z := by
  have h := runQ_has (L := L) z ss [] 1 ok lf
  rw [rq] at h
  simpa using h
end S
namespace S
open PySem PySem.Spec PyProof.Rows L2
def t__law_named_b2 (K : Frag) (E : XK) : TS :=
    tAsg (tOp (oAdd K) (dLc (iSeq K (dVar 1)) (gName 4) (dCmpT (oNe K) (dVar 4) (tOp (oIx K) (dVar 3) (tC (.int 0)))) (dVar 4) [4]) (dLst (tCons (tOp (oIx K) (dVar 3) (tC (.int 0))) (tNil)))) (gName 1)
def t__law_named_b1_1 (K : Frag) (E : XK) : TS :=
    dIfS (dCmpT (oEq K) (tOp (oIx K) (dVar 2) (tC (.int 0))) (tC (.str "atmost"))) (dFor (iSeq K (tOp (oIx K) (dVar 2) (tC (.int 1)))) (gName 3) (t__law_named_b2 K E)) (tNext)
def t__law_named_b1 (K : Frag) (E : XK) : TS :=
    tSeq (dIfS (dOr (dCmpT (oEq K) (tOp (oIx K) (dVar 2) (tC (.int 0))) (tC (.str "present"))) (dCmpT (oEq K) (tOp (oIx K) (dVar 2) (tC (.int 0))) (tC (.str "bit")))) (tAsg (tOp (oAdd K) (dLc (iSeq K (dVar 1)) (gName 4) (dCmpT (oNe K) (dVar 4) (tOp (oIx K) (dVar 2) (tC (.int 1)))) (dVar 4) [4]) (dLst (tCons (tOp (oIx K) (dVar 2) (tC (.int 1))) (tNil)))) (gName 1)) (tNext))
    (stop (t__law_named_b1_1 K E))
def t__law_named_2 (K : Frag) (E : XK) : TS :=
    tRet (tCB (cSortedD K) (tCons (dVar 1) (tNil)))
def t__law_named_1 (K : Frag) (E : XK) : TS :=
    tSeq (dFor (iSeq K (dVar 0)) (gName 2) (t__law_named_b1 K E))
    (stop (t__law_named_2 K E))
def t__law_named (K : Frag) (E : XK) : TS :=
    tSeq (tAsg (dLst (tNil)) (gName 1))
    (stop (t__law_named_1 K E))
end S
-- fn: _law_named
-- law: k41
-- sortD: yes
-- deps: Stn Fmm
namespace S
open PySem PySem.Spec PyProof.Rows L2
/-- a name is put last -/
def namA (F : List Str) (z : Str) : List Str := F.filter (fun y => !decide (y = z)) ++ [z]
theorem namA_mem {F : List Str} {z y : Str} : y ∈ namA F z ↔ y ∈ F ∨ y = z := by
  unfold namA
  rw [List.mem_append, List.mem_filter, List.mem_singleton]
  by_cases h : y = z
  · simp [h]
  · simp [h]
theorem namA_nd {F : List Str} {z : Str} (h : F.Nodup) : (namA F z).Nodup := by
  unfold namA
  rw [List.nodup_append]
  refine ⟨h.filter _, by simp, fun y hy w hw e => ?_⟩
  rw [List.mem_singleton] at hw
  subst e
  subst hw
  simp at hy
def sp__law_named (K : Frag) : Sp := fun vs H Q _ => ∃ (B : Hp) (r : Addr) (xs : List Addr) (ss : List Stp) (L : List Str), vs = [.ref r] ∧ H r = some (.lst (xs.map V.ref)) ∧ Paired (fun s x => StA K B H x s) ss xs ∧ ss.length ≤ 1000 ∧ (∀ s ∈ ss, ∀ z, s.nm z → z ∈ L) ∧ L.length ≤ 60 ∧
  ∀ (M : List Str) (q : Addr) (H' : Hp), Same H H' → H q = none → H' q = some (.lst (M.map V.str)) → M.Nodup → M.Pairwise leS → (∀ z, z ∈ M ↔ ∃ s ∈ ss, s.nm z) → Q (.ref q) H'
theorem pure__law_named {K : Frag} (vs : List V) (H : Hp) (Q : VK) (E : XK) (h : sp__law_named K vs H Q E) : t__law_named K E { nx := fun _ H' => Q .non H', rt := Q } (start ["_law_recipe_here", "_law_found", "_law_step", "_law_term", "_law_name"] vs) H := by
  obtain ⟨B, r, xs, ss, L, rfl, hr, hS, lss, sub, lL, k⟩ := h
  walk_at "gx"
  refine ⟨fun f nf => ?_⟩
  have e1 := same_new (o := .lst ([] : List V)) nf
  have hf1 : upd H f (.lst ([] : List V)) f = some (.lst (([] : List Str).map V.str)) := upd_same
  generalize upd H f (.lst ([] : List V)) = H1 at *
  walk_at "gx"
  refine for_seq0 (K := K) (fun i σ W => ∃ (f : Addr) (F : List Str) (x2 x3 x4 : Option V), σ = [some (.ref r), some (.ref f), x2, x3, x4] ∧ Same H W ∧ W f = some (.lst (F.map V.str)) ∧ F.Nodup ∧ ∀ z, z ∈ F ↔ ∃ s ∈ ss.take i, s.nm z) (.inl (SqL.of hr)) e1 ⟨f, [], _, _, _, rfl, e1, hf1, List.nodup_nil, fun z => by simp⟩ (fun i σ H' ⟨_, _, _, _, _, _, e, _⟩ => e) ?_ ?_
  · rintro i v σ W hi ⟨f, F, x2, x3, x4, rfl, e, hf, nd, hF⟩
    obtain ⟨x, hx, rfl⟩ := mget1 hi
    obtain ⟨s, hs, hA⟩ := pr_atL hS hx
    have hA := hA.same e
    have sF : ∀ z ∈ F, z ∈ L := fun z hz => by
      obtain ⟨s, hs, h⟩ := (hF z).mp hz
      exact sub s (List.mem_of_mem_take hs) z h
    have lF : F.length ≤ 60 := Nat.le_trans (nodup_len F L nd sF) lL
    have tk : ss.take (i + 1) = ss.take i ++ [s] := by rw [List.take_add_one, hs]; rfl
    cases s with
    | and =>
      have hA : SqT K W x [.str "and"] := hA
      walk_at "gx"
      exact ⟨f, F, _, _, _, rfl, e, hf, nd, fun z => by rw [tk, hF]; simp [Stp.nm]⟩
    | prs z0 =>
      have hA : SqT K W x [.str "present", .str z0] := hA
      walk_at "gx"
      refine lc_map (K := K) (xs := F.map V.str) (fun y => y) (fun y => match y with | .str s => !decide (s = z0) | _ => true) (.inl (SqL.of hf)) (by rw [List.length_map, sizeLine_eq]; omega) (fun y Y A' B' hm e3 hA' hB' => ?_) fun bb W3 nbb hbb e3 => ?_
      · obtain ⟨s0, _, rfl⟩ := List.mem_map.mp hm
        have hA3 := Same.tup e3 hA
        refine ⟨rfl, ?_⟩
        walk_at "gx"
        show (if (!decide (s0 = z0)) = true then A' (V.str s0) Y else B' Y)
        cases hb : decide (s0 = z0) with
        | true => exact hB' _ (Same.refl _) (by show (!decide (s0 = z0)) = false; rw [hb]; rfl)
        | false => exact hA' _ (Same.refl _) (by show (!decide (s0 = z0)) = true; rw [hb]; rfl)
      have hbb : W3 bb = some (.lst ((F.filter fun y => !decide (y = z0)).map V.str)) := by
        rw [hbb, List.map_id', List.filter_map]; rfl
      have hA3 := Same.tup e3 hA
      walk_at "gx"
      refine ⟨fun c nc => ?_⟩
      have e4 := same_new (o := .lst [.str z0]) nc
      have hc : upd W3 c (.lst [.str z0]) c = some (.lst ([z0].map V.str)) := upd_same
      generalize upd W3 c (.lst [.str z0]) = W4 at *
      have lf := List.length_filter_le (fun y => !decide (y = z0)) F
      refine Cat.l (e4 _ _ hbb) hc (by rw [List.length_map, List.length_map, List.length_singleton, sizeLine_eq]; omega) fun g ng => ?_
      have e5 := same_new (o := .lst ((F.filter fun y => !decide (y = z0)).map V.str ++ [z0].map V.str)) ng
      have hg : upd W4 g (.lst ((F.filter fun y => !decide (y = z0)).map V.str ++ [z0].map V.str)) g = some (.lst ((namA F z0).map V.str)) := by rw [upd_same, ← List.map_append]; rfl
      generalize upd W4 g (.lst ((F.filter fun y => !decide (y = z0)).map V.str ++ [z0].map V.str)) = W5 at *
      have e35 := e3.trans (e4.trans e5)
      have hA5 := Same.tup e35 hA
      walk_at "gx"
      exact ⟨g, namA F z0, _, _, _, rfl, e.trans e35, hg, namA_nd nd, fun z => by rw [namA_mem, tk, hF]; simp [Stp.nm, or_and_right, exists_or]⟩
    | bit z0 p0 =>
      have hA : SqT K W x [.str "bit", .str z0, .int p0] := hA
      walk_at "gx"
      refine lc_map (K := K) (xs := F.map V.str) (fun y => y) (fun y => match y with | .str s => !decide (s = z0) | _ => true) (.inl (SqL.of hf)) (by rw [List.length_map, sizeLine_eq]; omega) (fun y Y A' B' hm e3 hA' hB' => ?_) fun bb W3 nbb hbb e3 => ?_
      · obtain ⟨s0, _, rfl⟩ := List.mem_map.mp hm
        have hA3 := Same.tup e3 hA
        refine ⟨rfl, ?_⟩
        walk_at "gx"
        show (if (!decide (s0 = z0)) = true then A' (V.str s0) Y else B' Y)
        cases hb : decide (s0 = z0) with
        | true => exact hB' _ (Same.refl _) (by show (!decide (s0 = z0)) = false; rw [hb]; rfl)
        | false => exact hA' _ (Same.refl _) (by show (!decide (s0 = z0)) = true; rw [hb]; rfl)
      have hbb : W3 bb = some (.lst ((F.filter fun y => !decide (y = z0)).map V.str)) := by
        rw [hbb, List.map_id', List.filter_map]; rfl
      have hA3 := Same.tup e3 hA
      walk_at "gx"
      refine ⟨fun c nc => ?_⟩
      have e4 := same_new (o := .lst [.str z0]) nc
      have hc : upd W3 c (.lst [.str z0]) c = some (.lst ([z0].map V.str)) := upd_same
      generalize upd W3 c (.lst [.str z0]) = W4 at *
      have lf := List.length_filter_le (fun y => !decide (y = z0)) F
      refine Cat.l (e4 _ _ hbb) hc (by rw [List.length_map, List.length_map, List.length_singleton, sizeLine_eq]; omega) fun g ng => ?_
      have e5 := same_new (o := .lst ((F.filter fun y => !decide (y = z0)).map V.str ++ [z0].map V.str)) ng
      have hg : upd W4 g (.lst ((F.filter fun y => !decide (y = z0)).map V.str ++ [z0].map V.str)) g = some (.lst ((namA F z0).map V.str)) := by rw [upd_same, ← List.map_append]; rfl
      generalize upd W4 g (.lst ((F.filter fun y => !decide (y = z0)).map V.str ++ [z0].map V.str)) = W5 at *
      have e35 := e3.trans (e4.trans e5)
      have hA5 := Same.tup e35 hA
      walk_at "gx"
      exact ⟨g, namA F z0, _, _, _, rfl, e.trans e35, hg, namA_nd nd, fun z => by rw [namA_mem, tk, hF]; simp [Stp.nm, or_and_right, exists_or]⟩
    | or =>
      have hA : SqT K W x [.str "or"] := hA
      walk_at "gx"
      exact ⟨f, F, _, _, _, rfl, e, hf, nd, fun z => by rw [tk, hF]; simp [Stp.nm]⟩
    | not =>
      have hA : SqT K W x [.str "not"] := hA
      walk_at "gx"
      exact ⟨f, F, _, _, _, rfl, e, hf, nd, fun z => by rw [tk, hF]; simp [Stp.nm]⟩
    | sure =>
      have hA : SqT K W x [.str "sure"] := hA
      walk_at "gx"
      exact ⟨f, F, _, _, _, rfl, e, hf, nd, fun z => by rw [tk, hF]; simp [Stp.nm]⟩
    | twice =>
      have hA : SqT K W x [.str "twice"] := hA
      walk_at "gx"
      exact ⟨f, F, _, _, _, rfl, e, hf, nd, fun z => by rw [tk, hF]; simp [Stp.nm]⟩
    | atm T b =>
      obtain ⟨l, ys, hA, hl0, hl, hC⟩ := hA
      walk_at "gx"
      refine for_seq0 (K := K) (fun i σ Y => ∃ (g : Addr) (G : List Str) (x3 x4 : Option V), σ = [some (.ref r), some (.ref g), some (.ref x), x3, x4] ∧ Same W Y ∧ Y g = some (.lst (G.map V.str)) ∧ G.Nodup ∧ ∀ z, z ∈ G ↔ z ∈ F ∨ ∃ t ∈ T.take i, t.1 = z) (.inl (SqL.of hl)) (Same.refl _) ⟨f, F, x3, x4, rfl, Same.refl _, hf, nd, fun z => by simp⟩ (fun i σ H' ⟨_, _, _, _, _, e, _⟩ => e) ?_ ?_
      · rintro i v σ Y hi ⟨g0, G, x3, x4, rfl, eY, hg0, ndG, hG⟩
        obtain ⟨t, ht, cq, rfl, hcq⟩ := pr_atL hC hi
        have hT : SqT K Y cq [.str t.1, .int t.2] := Same.tup eY hcq
        have sG : ∀ z ∈ G, z ∈ L := fun z hz => by
          rcases (hG z).mp hz with h | ⟨t, ht, h⟩
          · exact sF z h
          · exact sub _ (List.mem_of_getElem? hs) z (by rw [← h]; exact List.mem_map.mpr ⟨t, List.mem_of_mem_take ht, rfl⟩)
        have lG : G.length ≤ 60 := Nat.le_trans (nodup_len G L ndG sG) lL
        have tkT : T.take (i + 1) = T.take i ++ [t] := by rw [List.take_add_one, ht]; rfl
        walk_at "gx"
        refine lc_map (K := K) (xs := G.map V.str) (fun y => y) (fun y => match y with | .str s => !decide (s = t.1) | _ => true) (.inl (SqL.of hg0)) (by rw [List.length_map, sizeLine_eq]; omega) (fun y Y A' B' hm e3 hA' hB' => ?_) fun bb W3 nbb hbb e3 => ?_
        · obtain ⟨s0, _, rfl⟩ := List.mem_map.mp hm
          have hT3 := Same.tup e3 hT
          refine ⟨rfl, ?_⟩
          walk_at "gx"
          show (if (!decide (s0 = t.1)) = true then A' (V.str s0) Y else B' Y)
          cases hb : decide (s0 = t.1) with
          | true => exact hB' _ (Same.refl _) (by show (!decide (s0 = t.1)) = false; rw [hb]; rfl)
          | false => exact hA' _ (Same.refl _) (by show (!decide (s0 = t.1)) = true; rw [hb]; rfl)
        have hbb : W3 bb = some (.lst ((G.filter fun y => !decide (y = t.1)).map V.str)) := by
          rw [hbb, List.map_id', List.filter_map]; rfl
        have hT3 := Same.tup e3 hT
        walk_at "gx"
        refine ⟨fun c nc => ?_⟩
        have e4 := same_new (o := .lst [.str t.1]) nc
        have hc : upd W3 c (.lst [.str t.1]) c = some (.lst ([t.1].map V.str)) := upd_same
        generalize upd W3 c (.lst [.str t.1]) = W4 at *
        have lf := List.length_filter_le (fun y => !decide (y = t.1)) G
        refine Cat.l (e4 _ _ hbb) hc (by rw [List.length_map, List.length_map, List.length_singleton, sizeLine_eq]; omega) fun g ng => ?_
        have e5 := same_new (o := .lst ((G.filter fun y => !decide (y = t.1)).map V.str ++ [t.1].map V.str)) ng
        have hg : upd W4 g (.lst ((G.filter fun y => !decide (y = t.1)).map V.str ++ [t.1].map V.str)) g = some (.lst ((namA G t.1).map V.str)) := by rw [upd_same, ← List.map_append]; rfl
        generalize upd W4 g (.lst ((G.filter fun y => !decide (y = t.1)).map V.str ++ [t.1].map V.str)) = W5 at *
        have e35 := e3.trans (e4.trans e5)
        have hT5 := Same.tup e35 hT
        walk_at "gx"
        exact ⟨g, namA G t.1, _, _, rfl, eY.trans e35, hg, namA_nd ndG, fun z => by rw [namA_mem, tkT, hG]; simp [or_and_right, exists_or, or_assoc, eq_comm]⟩
      · rintro σ Y ⟨g0, G, x3, x4, rfl, eY, hg0, ndG, hG⟩
        have lys : T.length = ys.length := hC.length
        rw [← lys, List.take_length] at hG
        walk_at "gx"
        refine ⟨g0, G, _, _, _, rfl, e.trans eY, hg0, ndG, fun z => ?_⟩
        rw [tk, hG, hF]
        simp only [List.mem_append, List.mem_singleton, or_and_right, exists_or, exists_eq_left]
        have : (∃ t ∈ T, t.1 = z) ↔ (Stp.atm T b).nm z := by
          show _ ↔ z ∈ T.map (fun t => t.1)
          rw [List.mem_map]
        rw [this]
  · rintro σ W ⟨f, F, x2, x3, x4, rfl, e, hf, nd, hF⟩
    have lxs : ss.length = xs.length := hS.length
    rw [List.length_map, ← lxs, List.take_length] at hF
    have sF : ∀ z ∈ F, z ∈ L := fun z hz => by
      obtain ⟨s, hs, h⟩ := (hF z).mp hz
      exact sub s hs z h
    have lF : F.length ≤ 60 := Nat.le_trans (nodup_len F L nd sF) lL
    walk_at "gx"
    refine SrtD.s hf (by omega) fun M q hM hs nq => ?_
    have e2 := same_new (o := .lst (M.map V.str)) nq
    refine k M q _ (e.trans e2) ?_ upd_same (hM.nodup_iff.mpr nd) (sorted_pw _ hs) fun z => by rw [hM.mem_iff, hF]
    cases h0 : H q with
    | none => rfl
    | some o => rw [e _ _ h0] at nq; cases nq
end S
-- deps: D0 D1 Cols
/-! ## == of lists of texts -/
namespace S
open PySem PySem.Spec PyProof.Rows L2
theorem dp_strs {K : Frag} {H : Hp} : ∀ L : List Str, DpAll K H (L.map V.str) (L.map PyData.str)
  | [] => .nil
  | x :: L => .cons (.str x) (dp_strs L)
theorem can_strs : ∀ {L : List Str}, (∀ x ∈ L, PyData.strOk x = true) → PyData.canLayAll0 (L.map PyData.str) = true
  | [], _ => rfl
  | x :: L, h => by
    show (PyData.canLay0 (.str x) && PyData.canLayAll0 (L.map PyData.str)) = true
    rw [can_strs fun y hy => h y (List.mem_cons_of_mem _ hy)]
    have := h x List.mem_cons_self
    simp [PyData.canLay0, this]
theorem dep_strs : ∀ L : List Str, PyData.depthAll (L.map PyData.str) = 0
  | [] => rfl
  | x :: L => by
    show max (PyData.depth (.str x)) (PyData.depthAll (L.map PyData.str)) = 0
    rw [dep_strs L]; rfl
theorem shp_strs {L : List Str} (h : ∀ x ∈ L, PyData.strOk x = true) : SeqAt.shaped (.list (L.map PyData.str)) = true := by
  unfold SeqAt.shaped
  have e1 : PyData.canLay0 (.list (L.map PyData.str)) = true := can_strs h
  have e2 : PyData.depth (.list (L.map PyData.str)) = 1 := by show PyData.depthAll _ + 1 = 1; rw [dep_strs]
  rw [e1, e2]; rfl
theorem eqv_strs : ∀ L : List Str, PyData.eqvAll (L.map PyData.str) (L.map PyData.str) = true
  | [] => rfl
  | x :: L => by
    show (PyData.eqv (.str x) (.str x) && PyData.eqvAll (L.map PyData.str) (L.map PyData.str)) = true
    rw [eqv_strs L]
    show ((x == x) && true) = true
    simp
theorem eqd_strs {K : Frag} {H : Hp} {a b : Addr} {L : List Str} {k : Bool → Prop} (hs : ∀ x ∈ L, PyData.strOk x = true) (h : H a = some (.lst (L.map V.str))) (h2 : H b = some (.lst (L.map V.str))) (q : k true) : EqD K H (.ref a) (.ref b) k :=
  ⟨_, _, .lst (SqL.of h) (dp_strs L), .lst (SqL.of h2) (dp_strs L), shp_strs hs, shp_strs hs, by
    have e : PyData.eqv (.list (L.map PyData.str)) (.list (L.map PyData.str)) = true := eqv_strs L
    rw [e]; exact q⟩
end S
-- deps: Qs Fm2
/-! ## the names of a question -/
namespace S
open PySem PySem.Spec PyProof.Rows L2
/-- names() of a question no deeper than n; all its names stand in a list of fewer than 64 -/
def sp_names (K : Frag) (n : Nat) (c : Str) : Sp := fun vs H Q _ => ∃ (a : Addr) (q : Qs) (D : List Str), vs = [.ref a] ∧ q.cls = c ∧ q.dep ≤ n ∧ QA K H a q ∧ D.length < 64 ∧ (∀ z, q.has z → z ∈ D) ∧
  ∀ (L : List Str) (p : Addr) (H' : Hp), Same H H' → H p = none → H' p = some (.lst (L.map V.str)) → L.Nodup → L.Pairwise leS → (∀ z, z ∈ L ↔ q.has z) → Q (.ref p) H'
theorem sp_names_0 {K : Frag} (c : Str) : ∀ vs H Q E, ¬ sp_names K 0 c vs H Q E := fun vs H Q E ⟨_, q, _, _, _, h, _⟩ => by have := q.pos; omega
/-- the parts of a question that has parts -/
theorem QA.parts {K : Frag} {H : Hp} {a : Addr} {q : Qs} (h : QA K H a q) (hc : q.cls ∈ ([("Both" : Str), "Either", "Opposite", "Surely"] : List Str)) :
    ∃ (ps : List (Addr × Qs)) (p dx : Addr) (ups fs : List Str) (as : List (Str × V)), DF K q.cls ups ("parts" :: fs) ∧ H a = some (.ins (He.ga K q.cls) dx (("parts", .ref p) :: as)) ∧ SqT K H p (ps.map fun t => V.ref t.1) ∧ (∀ t ∈ ps, QA K H t.1 t.2 ∧ t.2.dep + 1 ≤ q.dep) ∧ ps.length ≤ 2 ∧ ∀ z, q.has z ↔ ∃ t ∈ ps, t.2.has z := by
  cases q with
  | both q r =>
    obtain ⟨d, _, dx, p, b, c, ha, hp, hb, hr⟩ := h
    refine ⟨[(b, q), (c, r)], p, dx, _, _, _, d, ha, hp, fun t ht => ?_, Nat.le_refl 2, fun z => ?_⟩
    · have e1 := Nat.le_max_left q.dep r.dep
      have e2 := Nat.le_max_right q.dep r.dep
      rcases List.mem_cons.mp ht with rfl | ht
      · exact ⟨hb, Nat.succ_le_succ e1⟩
      · rw [List.mem_singleton.mp ht]; exact ⟨hr, Nat.succ_le_succ e2⟩
    · simp [Qs.has]
  | eith q r =>
    obtain ⟨d, _, dx, p, b, c, ha, hp, hb, hr⟩ := h
    refine ⟨[(b, q), (c, r)], p, dx, _, _, _, d, ha, hp, fun t ht => ?_, Nat.le_refl 2, fun z => ?_⟩
    · have e1 := Nat.le_max_left q.dep r.dep
      have e2 := Nat.le_max_right q.dep r.dep
      rcases List.mem_cons.mp ht with rfl | ht
      · exact ⟨hb, Nat.succ_le_succ e1⟩
      · rw [List.mem_singleton.mp ht]; exact ⟨hr, Nat.succ_le_succ e2⟩
    · simp [Qs.has]
  | opp q =>
    obtain ⟨d, _, dx, p, b, ha, hp, hb⟩ := h
    refine ⟨[(b, q)], p, dx, _, _, _, d, ha, hp, fun t ht => ?_, (show 1 ≤ 2 by decide), fun z => by simp [Qs.has]⟩
    rw [List.mem_singleton.mp ht]; exact ⟨hb, Nat.le_refl _⟩
  | sure q =>
    obtain ⟨d, _, dx, p, b, ha, hp, hb⟩ := h
    refine ⟨[(b, q)], p, dx, _, _, _, d, ha, hp, fun t ht => ?_, (show 1 ≤ 2 by decide), fun z => by simp [Qs.has]⟩
    rw [List.mem_singleton.mp ht]; exact ⟨hb, Nat.le_refl _⟩
  | _ => simp only [Qs.cls] at hc; exact absurd hc (by decide)
end S
namespace S
open PySem PySem.Spec PyProof.Rows L2
def t__law_wide_b1 (K : Frag) (E : XK) : TS :=
    tAsg (tOp (oAdd K) (tOp oMulA (dVar 3) (tC (.int 1000))) (dCall (sp__law_draw K) (EW E) (tCons (dVar 0) (tCons (dVar 1) (tCons (tC (.int 1000)) (tNil)))))) (gName 3)
def t__law_wide_2 (K : Frag) (E : XK) : TS :=
    tRet (tOp oMod (tCB cInt (tCons (dVar 3) (tNil))) (dVar 2))
def t__law_wide_1 (K : Frag) (E : XK) : TS :=
    tSeq (dFor (iRng (tCons (tC (.int 6)) (tNil))) (gName 4) (t__law_wide_b1 K E))
    (stop (t__law_wide_2 K E))
def t__law_wide (K : Frag) (E : XK) : TS :=
    tSeq (tAsg (tC (.int 0)) (gName 3))
    (stop (t__law_wide_1 K E))
end S
-- fn: _law_wide
-- law: k03
-- deps: D0
namespace S
open PySem PySem.Spec PyProof.Rows L2
def sp__law_wide (K : Frag) : Sp := fun vs H Q _ => ∃ (a st : Addr) (lim : Int), vs = [.ref a, .ref st, .int lim] ∧ Ctx K H a st ∧ 0 < lim ∧
  ∀ (r : Int) (H' : Hp), 0 ≤ r → r < lim → Ctx K H' a st → SameX st H H' → Q (.int r) H'
theorem pure__law_wide {K : Frag} (vs : List V) (H : Hp) (Q : VK) (E : XK) (h : sp__law_wide K vs H Q E) : t__law_wide K E { nx := fun _ H' => Q .non H', rt := Q } (start ["_law_script", "_law_state", "_law_limit", "_law_number", "_law_k"] vs) H := by
  obtain ⟨a, st, lim, rfl, hc, hl, q⟩ := h
  walk_at "gx"
  refine for_rng (fun i σ H1 => ∃ (n : Int) (k : Option V), σ = [some (.ref a), some (.ref st), some (.int lim), some (.int n), k] ∧ Ctx K H1 a st ∧ SameX st H H1) ⟨0, none, rfl, hc, SameX.refl _ _⟩ ?_ ?_
  · rintro i σ H1 hi ⟨n, k, rfl, c1, e1⟩
    walk_at "gx"
    refine ⟨a, st, _, rfl, c1, by decide, fun r H2 h0 h1 c2 e2 => ?_⟩
    exact ⟨_, _, rfl, c2, e1.trans e2⟩
  · rintro σ H1 ⟨n, k, rfl, c1, e1⟩
    walk_at "gx"
    exact q _ _ (Int.emod_nonneg _ (by omega)) (Int.emod_lt_of_pos _ hl) c1 e1
end S
namespace S
open PySem PySem.Spec PyProof.Rows L2
def t__law_number_6 (K : Frag) (E : XK) : TS :=
    tRet (tOp oSub (tOp oMod (tCB cInt (tCons (tOp (oAdd K) (dVar 5) (dVar 3)) (tNil))) (tOp oMulA (tC (.int 2)) (dVar 3))) (dVar 3))
def t__law_number_5 (K : Frag) (E : XK) : TS :=
    tSeq (dIfS (dCmpT oGt (dVar 4) (tC (.int 2))) (tAsg (dCall (sp__law_wide K) (EW E) (tCons (dVar 0) (tCons (dVar 1) (tCons (tOp oMulA (tC (.int 2)) (dVar 3)) (tNil))))) (gName 5)) (tNext))
    (stop (t__law_number_6 K E))
def t__law_number_4 (K : Frag) (E : XK) : TS :=
    tSeq (dIfS (dCmpT (oEq K) (dVar 4) (tC (.int 2))) (tSeq (tAsg (tOp oShl (tC (.int 1)) (dCall (sp__law_draw K) (EW E) (tCons (dVar 0) (tCons (dVar 1) (tCons (dVar 2) (tNil)))))) (gName 6))
    (tAsg (tOp (oIx K) (dLst (tCons (tOp oSub (dVar 6) (tC (.int 1))) (tCons (dVar 6) (tCons (tUn uNeg (dVar 6)) (tCons (tOp oSub (tUn uNeg (tC (.int 1))) (dVar 6)) (tNil)))))) (dVar 5)) (gName 5))) (tNext))
    (stop (t__law_number_5 K E))
def t__law_number_3 (K : Frag) (E : XK) : TS :=
    tSeq (dIfS (dCmpT (oEq K) (dVar 4) (tC (.int 1))) (tAsg (tOp oSub (tUn uNeg (tC (.int 1))) (dVar 5)) (gName 5)) (tNext))
    (stop (t__law_number_4 K E))
def t__law_number_2 (K : Frag) (E : XK) : TS :=
    tSeq (tAsg (dCall (sp__law_draw K) (EW E) (tCons (dVar 0) (tCons (dVar 1) (tCons (tC (.int 4)) (tNil))))) (gName 5))
    (stop (t__law_number_3 K E))
def t__law_number_1 (K : Frag) (E : XK) : TS :=
    tSeq (tAsg (dCall (sp__law_draw K) (EW E) (tCons (dVar 0) (tCons (dVar 1) (tCons (tC (.int 5)) (tNil))))) (gName 4))
    (stop (t__law_number_2 K E))
def t__law_number (K : Frag) (E : XK) : TS :=
    tSeq (tAsg (tOp oShl (tC (.int 1)) (tOp oSub (dVar 2) (tC (.int 1)))) (gName 3))
    (stop (t__law_number_1 K E))
end S
-- fn: _law_number
-- law: k15
-- deps: D0 D1 _law_draw _law_wide
namespace S
open PySem PySem.Spec PyProof.Rows L2
/-- a number of so many places -/
def sp__law_number (K : Frag) : Sp := fun vs H Q _ => ∃ (a st : Addr) (p : Int), vs = [.ref a, .ref st, .int p] ∧ Ctx K H a st ∧ 1 ≤ p ∧ p ≤ 100 ∧
  ∀ (r : Int) (H' : Hp), -(2 ^ (p - 1).toNat : Int) ≤ r → r < 2 ^ (p - 1).toNat → Ctx K H' a st → SameX st H H' → Q (.int r) H'
theorem pure__law_number {K : Frag} (vs : List V) (H : Hp) (Q : VK) (E : XK) (h : sp__law_number K vs H Q E) : t__law_number K E { nx := fun _ H' => Q .non H', rt := Q } (start ["_law_script", "_law_state", "_law_places", "_law_half", "_law_kind", "_law_number_here", "_law_power"] vs) H := by
  obtain ⟨a, st, p, rfl, hc, p1, p2, q⟩ := h
  have hp0 : (0 : Int) < 2 ^ (p - 1).toNat := Int.pow_pos (by decide)
  have one : (1 : Int) * 2 ^ (p - 1).toNat = 2 ^ (p - 1).toNat := Int.one_mul _
  walk_at "gx"
  show t__law_number_1 K E _ [some (.ref a), some (.ref st), some (.int p), some (.int ((1 : Int) * 2 ^ (p - 1).toNat)), none, none, none] H
  rw [one]
  generalize (2 ^ (p - 1).toNat : Int) = h2 at *
  have fin : ∀ (H1 : Hp) (k x : Int) (pw : Option V), Ctx K H1 a st → SameX st H H1 → t__law_number_6 K E { nx := fun _ H' => Q .non H', rt := Q } [some (.ref a), some (.ref st), some (.int p), some (.int h2), some (.int k), some (.int x), pw] H1 := by
    intro H1 k x pw c1 e1
    walk_at "gx"
    have m0 := Int.emod_nonneg (x + h2) (b := 2 * h2) (by omega)
    have m1 := Int.emod_lt_of_pos (x + h2) (b := 2 * h2) (by omega)
    exact q _ _ (by dsimp only; omega) (by dsimp only; omega) c1 e1
  have s5 : ∀ (H1 : Hp) (k x : Int) (pw : Option V), Ctx K H1 a st → SameX st H H1 → t__law_number_5 K E { nx := fun _ H' => Q .non H', rt := Q } [some (.ref a), some (.ref st), some (.int p), some (.int h2), some (.int k), some (.int x), pw] H1 := by
    intro H1 k x pw c1 e1
    walk_at "gx"
    refine ifd (fun hk => ?_) (fun hk => ?_)
    · walk_at "gx"
      refine ⟨a, st, _, rfl, c1, by omega, fun r H2 r0 r1 c2 e2 => ?_⟩
      exact ⟨fin H2 k r pw c2 (e1.trans e2)⟩
    · exact ⟨fin H1 k x pw c1 e1⟩
  refine ⟨a, st, _, rfl, hc, by decide, fun kd H1 k0 k1 c1 e1 => ?_⟩
  walk_at "gx"
  refine ⟨a, st, _, rfl, c1, by decide, fun x H2 x0 x1 c2 e2 => ?_⟩
  have e12 := e1.trans e2
  have x1' : x < 4 := x1
  have s4 : ∀ y : Int, (kd = 2 → y = x) → t__law_number_4 K E { nx := fun _ H' => Q .non H', rt := Q } [some (.ref a), some (.ref st), some (.int p), some (.int h2), some (.int kd), some (.int y), none] H2 := by
    intro y hy
    walk_at "gx"
    refine ifd (fun hk => ?_) (fun hk => ?_)
    · have ey := hy hk
      subst ey
      walk_at "gx"
      refine ⟨a, st, _, rfl, c2, by omega, fun b H3 b0 b1 c3 e3 => ?_⟩
      have b1' : b < p := b1
      walk_at "gx"
      refine ⟨fun l nl => ?_⟩
      have e4 := same_new (o := .lst [.int ((1 : Int) * 2 ^ b.toNat - 1), .int ((1 : Int) * 2 ^ b.toNat), .int (-((1 : Int) * 2 ^ b.toNat)), .int (-1 - (1 : Int) * 2 ^ b.toNat)]) nl
      obtain ⟨j, rfl⟩ := Int.eq_ofNat_of_zero_le x0
      have hj : j < 4 := by omega
      have c4 := c3.same e4
      have e14 := (e12.trans e3).then e4
      refine Rd.l upd_same ?_
      match j, hj with
      | 0, _ => exact S.At.of (atI_nat (j := 0) rfl) ⟨s5 _ _ _ _ c4 e14⟩
      | 1, _ => exact S.At.of (atI_nat (j := 1) rfl) ⟨s5 _ _ _ _ c4 e14⟩
      | 2, _ => exact S.At.of (atI_nat (j := 2) rfl) ⟨s5 _ _ _ _ c4 e14⟩
      | 3, _ => exact S.At.of (atI_nat (j := 3) rfl) ⟨s5 _ _ _ _ c4 e14⟩
    · exact ⟨s5 H2 kd y none c2 e12⟩
  walk_at "gx"
  refine ifd (fun hk => ?_) (fun hk => ?_)
  · exact ⟨s4 _ (fun z => by omega)⟩
  · exact ⟨s4 x (fun _ => rfl)⟩
end S
namespace S
open PySem PySem.Spec PyProof.Rows L2
end S
-- fn: _law_in
-- law: k03
-- deps: D0
namespace S
open PySem PySem.Spec PyProof.Rows L2
/-- an odd number of the ends is at most the row -/
def inB (ends : List Int) (row : Int) : Bool := ends.foldl (fun b e => if e ≤ row then !b else b) false
theorem inB_cons (x : Int) (l : List Int) (row : Int) : inB (x :: l) row = if x ≤ row then !(inB l row) else inB l row := by
  have key : ∀ (l : List Int) (b : Bool), l.foldl (fun b e => if e ≤ row then !b else b) (!b) = !(l.foldl (fun b e => if e ≤ row then !b else b) b) := by
    intro l
    induction l with
    | nil => intro b; rfl
    | cons y l ih =>
      intro b
      simp only [List.foldl_cons]
      by_cases h : y ≤ row
      · rw [if_pos h, if_pos h, ih]
      · rw [if_neg h, if_neg h, ih]
  unfold inB
  simp only [List.foldl_cons]
  by_cases h : x ≤ row
  · rw [if_pos h, if_pos h, key]
  · rw [if_neg h, if_neg h]
end S
namespace S
open PySem PySem.Spec PyProof.Rows L2
end S
-- fn: Bitmap.__init__
-- law: k01
-- deps: Bm _law_in
namespace S
open PySem PySem.Spec PyProof.Rows L2
end S
namespace S
open PySem PySem.Spec PyProof.Rows L2
end S
-- fn: next_end
-- law: k02
-- deps: D0
namespace S
open PySem PySem.Spec PyProof.Rows L2
end S
namespace S
open PySem PySem.Spec PyProof.Rows L2
end S
-- fn: swept
-- law: k02
-- deps: D0 next_end _law_in
namespace S
open PySem PySem.Spec PyProof.Rows L2
/-- one step of the sweep: at, the bits behind, the bit so far; the ends and the bit -/
def sweepAt (r : Bool → Bool → Bool) (at_ : Int) (f s b : Bool) (rest : List Int) : List Int := if r f s = b then rest else at_ :: rest
def sweep (r : Bool → Bool → Bool) : List Int → List Int → Bool → Bool → List Int
  | [], [], _, _ => []
  | x :: xs, [], f, s => sweepAt r x (!f) s (r f s) (sweep r xs [] (!f) s)
  | [], y :: ys, f, s => sweepAt r y f (!s) (r f s) (sweep r [] ys f (!s))
  | x :: xs, y :: ys, f, s =>
    if x < y then sweepAt r x (!f) s (r f s) (sweep r xs (y :: ys) (!f) s)
    else if x = y then sweepAt r x (!f) (!s) (r f s) (sweep r xs ys (!f) (!s))
    else sweepAt r y f (!s) (r f s) (sweep r (x :: xs) ys f (!s))
  termination_by xs ys => xs.length + ys.length
/-! ### the law of the sweep -/
theorem inB_before {ns : List Int} {row : Int} (h : ∀ x ∈ ns, row < x) : inB ns row = false := by
  induction ns with
  | nil => rfl
  | cons x r ih =>
    rw [inB_cons, if_neg (by have := h x (List.mem_cons_self ..); omega)]
    exact ih fun y hy => h y (List.mem_cons_of_mem _ hy)
end S
namespace S
open PySem PySem.Spec PyProof.Rows L2
end S
-- fn: turned
-- law: k03
-- deps: D0
namespace S
open PySem PySem.Spec PyProof.Rows L2
end S
-- deps: D0 D1 turned _law_in
namespace S
open PySem PySem.Spec PyProof.Rows L2
end S
-- deps: Bm
namespace S
open PySem PySem.Spec PyProof.Rows L2
theorem isi_bm {K : Frag} {H : Hp} {a : Addr} {n : Int} {es : List Int} {k : Bool → Prop} (h : Bm K H a n es) (q : k true) : Isi K H (.ref a) (.ref (He.ga K "Bitmap")) k := by
  obtain ⟨c, _, _, dx, p, hs, _⟩ := h
  exact ⟨.inr ⟨a, _, dx, _, true, rfl, hs, c.sc, c.si, by rw [mf_kit c.mf c.mf]; rfl, q⟩⟩
end S
namespace S
open PySem PySem.Spec PyProof.Rows L2
end S
-- fn: Bitmap.paired
-- law: k05
-- deps: Bm Bitmap_init swept turned turned_law isi_bm
namespace S
open PySem PySem.Spec PyProof.Rows L2
end S
namespace S
open PySem PySem.Spec PyProof.Rows L2
end S
namespace S
open PySem PySem.Spec PyProof.Rows L2
end S
namespace S
open PySem PySem.Spec PyProof.Rows L2
end S
namespace S
open PySem PySem.Spec PyProof.Rows L2
end S
namespace S
open PySem PySem.Spec PyProof.Rows L2
end S
namespace S
open PySem PySem.Spec PyProof.Rows L2
end S
namespace S
open PySem PySem.Spec PyProof.Rows L2
end S
-- fn: Bitmap.__and__ Bitmap.__or__ Bitmap.__xor__ Bitmap.__sub__ Bitmap.__invert__ Bitmap.__eq__ Bitmap.__bool__
-- law: k05
-- deps: Bm Bitmap_init swept turned turned_law isi_bm Bitmap_paired
namespace S
open PySem PySem.Spec PyProof.Rows L2
/-- what stands behind ==: a bitmap, or something that is none -/
def BmV (K : Frag) (H : Hp) (y : V) (m : Int) (fs : List Int) : Prop := (∃ b, y = .ref b ∧ Bm K H b m fs) ∨ (m = -1 ∧ ∀ k : Bool → Prop, k false → MF K "Bitmap" [] ["object"] → Isi K H y (.ref (He.ga K "Bitmap")) k)
instance {K : Frag} {H : Hp} {b : Addr} {m : Int} {fs : List Int} : Coe (Bm K H b m fs) (BmV K H (.ref b) m fs) := ⟨fun h => .inl ⟨b, rfl, h⟩⟩
instance : Coe Addr V := ⟨V.ref⟩
end S
namespace S
open PySem PySem.Spec PyProof.Rows L2
end S
-- fn: _law_one_sided
-- law: k10
-- deps: D0 D1 _law_in Bitmap_ops
namespace S
open PySem PySem.Spec PyProof.Rows L2
theorem mem_iff (z : Int) : ∀ L : List Int, L.Pairwise (· < ·) → (z ∈ L ↔ inB L z ≠ inB L (z - 1))
  | [], _ => by simp [inB]
  | x :: r, h => by
    obtain ⟨h1, h2⟩ := List.pairwise_cons.mp h
    rw [inB_cons, inB_cons, List.mem_cons]
    have ih := mem_iff z r h2
    by_cases e : z = x
    · subst e
      rw [if_pos (Int.le_refl _), if_neg (by omega), inB_before h1, inB_before fun w hw => by have := h1 w hw; omega]
      simp
    · by_cases g : x < z
      · rw [if_pos (by omega), if_pos (by omega)]
        constructor
        · rintro (a | a)
          · exact absurd a e
          · have := ih.mp a
            simpa using this
        · intro a
          exact .inr (ih.mpr (by simpa using a))
      · rw [if_neg (by omega), if_neg (by omega)]
        constructor
        · rintro (a | a)
          · exact absurd a e
          · exact ih.mp a
        · intro a
          exact .inr (ih.mpr a)
end S
-- deps: Bm Bitmap_ops _law_in _law_one_sided
/-! ## slices: numbers of bits, place 0 first, the sign last -/
namespace S
open PySem PySem.Spec PyProof.Rows L2
/-! ### the law's sum over the places -/
/-! ### lists of bitmaps, of lists -/
end S
-- deps: Bm Sl
/-! ## comprehensions that make objects -/
namespace S
open PySem PySem.Spec PyProof.Rows L2
theorem SameI.slt {H H' : Hp} {a C dx : Addr} {vs : List (Option V)} (e : SameI H H') (h : SlX.Slt H a C dx vs) : SlX.Slt H' a C dx vs := by
  rcases h with ⟨h, z⟩ | ⟨h, z⟩
  · exact .inl ⟨e _ _ h (fun _ z => by cases z), z⟩
  · exact .inr ⟨e _ _ h fun _ => slO_lst, e _ _ z (fun _ z => by cases z)⟩
theorem Bm.i {K : Frag} {H H' : Hp} {a : Addr} {n : Int} {es : List Int} (h : Bm K H a n es) (e : SameI H H') : Bm K H' a n es := by
  obtain ⟨c, h0, hE, dx, p, h1, h2⟩ := h
  exact ⟨c, h0, hE, dx, p, e.slt h1, e.tup h2⟩
end S
-- deps: Bm Bitmap_ops Sl Lc
/-! ## bitmaps told by their rows, their ends among known ones -/
namespace S
open PySem PySem.Spec PyProof.Rows L2
def Bs (K : Frag) (H : Hp) (x : Addr) (n : Int) (f : Int → Bool) (S : List Int) : Prop := ∃ es, Bm K H x n es ∧ (∀ z ∈ es, z ∈ S) ∧ ∀ row, 0 ≤ row → row < n → inB es row = f row
theorem Bs.same {K : Frag} {H H' : Hp} {x : Addr} {n : Int} {f : Int → Bool} {S : List Int} (h : Bs K H x n f S) (e : Same H H') : Bs K H' x n f S := let ⟨es, a, b, c⟩ := h; ⟨es, a.same e, b, c⟩
theorem Bs.x {K : Frag} {H H' : Hp} {x st : Addr} {n : Int} {f : Int → Bool} {S : List Int} {l : List V} (h : Bs K H x n f S) (e : SameX st H H') (hst : H st = some (.lst l)) : Bs K H' x n f S := let ⟨es, a, b, c⟩ := h; ⟨es, a.x e hst, b, c⟩
theorem Bs.slt {K : Frag} {H : Hp} {x : Addr} {n : Int} {f : Int → Bool} {S : List Int} (h : Bs K H x n f S) : ∃ dx vs, SlX.Slt H x (He.ga K "Bitmap") dx vs := let ⟨_, ⟨_, _, _, dx, _, a, _⟩, _⟩ := h; ⟨dx, _, a⟩
section
variable {K : Frag} {H : Hp} {x y : Addr} {n : Int} {f g : Int → Bool} {S : List Int} {Q : VK} {E : XK}
end
/-! ### lists of them -/
/-! ### sums, negatives -/
end S
-- deps: Sl Bs
/-! ## numbers of bits, further -/
namespace S
open PySem PySem.Spec PyProof.Rows L2
theorem pow_up {p q : Nat} (h : p ≤ q) : (2 ^ p : Int) ≤ 2 ^ q := by
  have h1 : ((2 : Int) ^ p) = ((2 ^ p : Nat) : Int) := by simp
  have h2 : ((2 : Int) ^ q) = ((2 ^ q : Nat) : Int) := by simp
  rw [h1, h2]
  exact Int.ofNat_le.mpr (Nat.pow_le_pow_right (by decide) h)
end S
namespace S
open PySem PySem.Spec PyProof.Rows L2
end S
-- fn: Bitmap.__contains__
-- law: k01
-- deps: Bm _law_in
namespace S
open PySem PySem.Spec PyProof.Rows L2
end S
namespace S
open PySem PySem.Spec PyProof.Rows L2
end S
namespace S
open PySem PySem.Spec PyProof.Rows L2
end S
namespace S
open PySem PySem.Spec PyProof.Rows L2
end S
-- fn: width_for bit_of weight_of
-- law: k15
-- deps: Tw Bitmap_contains
namespace S
open PySem PySem.Spec PyProof.Rows L2
end S
namespace S
open PySem PySem.Spec PyProof.Rows L2
end S
-- fn: narrowed
-- law: k12
-- own: Eq=Bitmap
-- deps: Sl
namespace S
open PySem PySem.Spec PyProof.Rows L2
end S
namespace S
open PySem PySem.Spec PyProof.Rows L2
end S
-- fn: _law_ends
-- law: k03
-- deps: D0 _law_wide
namespace S
open PySem PySem.Spec PyProof.Rows L2
end S
namespace S
open PySem PySem.Spec PyProof.Rows L2
end S
-- fn: _law_places
-- law: k12
-- deps: Sl _law_draw _law_ends
namespace S
open PySem PySem.Spec PyProof.Rows L2
theorem SameX.none {st : Addr} {H H' : Hp} {p : Addr} (e : SameX st H H') (h : H' p = none) (n : p ≠ st) : H p = none := by
  cases x : H p with
  | none => rfl
  | some o => rw [e _ _ x n] at h; cases h
end S
namespace S
open PySem PySem.Spec PyProof.Rows L2
end S
-- fn: Column.__init__
-- law: k15
-- own: BitAnd=Bitmap
-- deps: Tw narrowed Bs Lc Bitmap_init _law_places
namespace S
open PySem PySem.Spec PyProof.Rows L2
end S
namespace S
open PySem PySem.Spec PyProof.Rows L2
end S
-- fn: _law_rows_of
-- law: k12
-- deps: Sl _law_places
namespace S
open PySem PySem.Spec PyProof.Rows L2
theorem SameX.stay {K : Frag} {st p : Addr} {H H' : Hp} {l : List V} (e : SameX st H H') (n : p ≠ st) (hst : H st = some (.lst l)) : Stay K p H H' := fun _ => ⟨fun h => e.seq h n, fun h => e.tup h hst⟩
end S
namespace S
open PySem PySem.Spec PyProof.Rows L2
end S
-- fn: bitmap_of
-- law: k15
-- deps: width_for Lc Bitmap_init _law_places _law_rows_of
namespace S
open PySem PySem.Spec PyProof.Rows L2
theorem paired_get {α β : Type} {R : α → β → Prop} : ∀ {as : List α} {bs : List β} {i : Nat} {b : β}, Paired R as bs → bs[i]? = some b → ∃ a, as[i]? = some a ∧ R a b
  | _, _, 0, b, .cons r _, h => by
    have e := Option.some.inj h
    subst e
    exact ⟨_, rfl, r⟩
  | _, _, i + 1, b, .cons _ h2, h => by
    obtain ⟨a, e, r⟩ := paired_get (i := i) h2 (by simpa using h)
    exact ⟨a, by simpa using e, r⟩
def sums {α : Type} : Int → List (Int × α) → List Int
  | _, [] => []
  | a, (l, _) :: r => a :: sums (a + l) r
end S
namespace S
open PySem PySem.Spec PyProof.Rows L2
end S
-- fn: Column.of_runs
-- law: k15
-- deps: Column_init bitmap_of width_for
namespace S
open PySem PySem.Spec PyProof.Rows L2
/-- [e for x, y in xs]: of pairs known ahead -/
theorem lc_tup {α : Type} {K : Frag} {p : Addr} {i k : Nat} {te : TE} {vs : List Nat} {σ : L2.St} {H1 : Hp} {Q : VK} {ys : List V} (as : List α) (f1 f2 : α → V) (R : Addr → α → V → Hp → Prop) (hx : SqA K H1 p ys) (hP : Paired (fun r y => ∃ a, y = .ref a ∧ SqT K H1 a [f1 r, f2 r]) as ys) (hz : as.length < sizeLine)
    (mono : ∀ D a y H H' l, H D = some (.lst l) → R D a y H → SameX D H H' → R D a y H')
    (hs : ∀ (D : Addr) (l : List V) (j : Nat) (a : α) (H : Hp) (A : V → Hp → Prop), H1 D = none → H D = some (.lst l) → as[j]? = some a → Same H1 H → (∀ y H', Same H H' → R D a y H' → A y H') → wipe (((wipe σ vs).set i (some (f1 a))).set k (some (f2 a))) vs = wipe σ vs ∧ te (((wipe σ vs).set i (some (f1 a))).set k (some (f2 a))) H A)
    (hd : ∀ D zs H', H1 D = none → H' D = some (.lst zs) → Paired (fun a y => R D a y H') as zs → Same H1 H' → Q (.ref D) H') :
    Walk K H1 p (Wr (LcGo (gTup K 2 (gCons (gName i) (gCons (gName k) gNil))) tYes te vs σ Q)) := by
  have hlen0 := Paired.length hP
  refine lc_seq hx fun D hD => ⟨fun j H => ∃ zs, H D = some (.lst zs) ∧ Paired (fun a y => R D a y H) (as.take j) zs ∧ Same H1 H, ⟨[], upd_same, .nil, same_new hD⟩, fun i H _ ⟨_, _, _, e⟩ ys => ⟨e.seq, Same.tup e⟩, ?_, fun H ⟨ys, h1, h2, e⟩ => hd D ys H hD h1 (by rw [← hlen0, List.take_length] at h2; exact h2) e⟩
  rintro j x H hi ⟨zs, h1, h2, e⟩
  obtain ⟨a, hj, ad, rfl, hT⟩ := paired_get hP hi
  have hil : j < as.length := (List.getElem?_eq_some_iff.mp hj).1
  have hlen : zs.length ≤ j := by
    rw [← h2.length, List.length_take]; exact Nat.min_le_left _ _
  obtain ⟨w, q⟩ := hs D zs j a H (fun y H4 => ∃ acc, H4 D = some (.lst acc) ∧ acc.length < sizeLine ∧ ∃ ys, upd H4 D (.lst (acc ++ [y])) D = some (.lst ys) ∧ Paired (fun a y' => R D a y' (upd H4 D (.lst (acc ++ [y])))) (as.take (j + 1)) ys ∧ Same H1 (upd H4 D (.lst (acc ++ [y])))) hD h1 hj e fun y H' e2 r => by
    have si : SameX D H' (L2.upd H' D (.lst (zs ++ [y]))) := SameX.upd
    refine ⟨zs, e2 _ _ h1, by omega, zs ++ [y], upd_same, ?_, fun b o hb => ?_⟩
    · rw [List.take_succ, hj]
      exact Paired.snoc (Paired.mapP h2 fun a b r => mono _ _ _ _ _ _ h1 r (Same.thenX e2 si)) (mono _ _ _ _ _ _ (e2 _ _ h1) r si)
    · rw [upd_ne (ne_of_none hb hD)]
      exact e2 _ _ (e _ _ hb)
  refine ⟨ad, [f1 a, f2 a], rfl, Same.tup e hT, rfl, _, _, rfl, _, _, rfl, rfl, w, ?_⟩
  unfold tYes
  dsimp only
  rw [if_pos rfl]
  exact q
end S
namespace S
open PySem PySem.Spec PyProof.Rows L2
end S
-- fn: _law_value
-- law: k15
-- deps: _law_number width_for Tw Column_of_runs
namespace S
open PySem PySem.Spec PyProof.Rows L2
theorem widI_le {r : Int} {k : Nat} (h0 : -(2 ^ k : Int) ≤ r) (h1 : r < 2 ^ k) : widI r ≤ k + 1 := by
  by_cases h : widI r ≤ k + 1
  · exact h
  · rcases widI_least (i := r) (by omega) with h2 | h2
    · have := pow_up (p := k) (q := widI r - 2) (by omega); omega
    · have := pow_up (p := k) (q := widI r - 2) (by omega); omega
end S
namespace S
open PySem PySem.Spec PyProof.Rows L2
def t__law_leaf_b1 (K : Frag) (E : XK) : TS :=
    dIfS (dCmpT oLt (dCall (sp__law_draw K) (EW E) (tCons (dVar 0) (tCons (dVar 1) (tCons (tC (.int 3)) (tNil))))) (tC (.int 2))) (tSeq (tAsg (tOp (oIx K) (dLst (tCons (tC (.int 1)) (tCons (tUn uNeg (tC (.int 1))) (tCons (tC (.int 2)) (tCons (tC (.int 0)) (tCons (tUn uNeg (tC (.int 3))) (tCons (tC (.int 4)) (tCons (tC (.int 3)) (tCons (tUn uNeg (tC (.int 2))) (tCons (tUn uNeg (tC (.int 4))) (tNil))))))))))) (dCall (sp__law_draw K) (EW E) (tCons (dVar 0) (tCons (dVar 1) (tCons (tC (.int 9)) (tNil)))))) (gName 7))
    (tSeq (tDrop (dML K mApp (dVar 5) (tCons (dTup K (tCons (tOp (oIx K) (dVar 4) (tC (.int 0))) (tCons (dVar 7) (tNil)))) (tNil))))
    (tAsg (tOp (oAdd K) (dVar 6) (tOp oMulA (dVar 7) (dCall (sp__law_number K) (EW E) (tCons (dVar 0) (tCons (dVar 1) (tCons (tOp (oIx K) (dVar 4) (tC (.int 1))) (tNil))))))) (gName 6)))) (tNext)
def t__law_leaf_5 (K : Frag) (E : XK) : TS :=
    tRet (dTup K (tCons (tC (.str "atmost")) (tCons (dVar 5) (tCons (dVar 6) (tNil)))))
def t__law_leaf_4 (K : Frag) (E : XK) : TS :=
    tSeq (dFor (iSeq K (dVar 2)) (gName 4) (t__law_leaf_b1 K E))
    (stop (t__law_leaf_5 K E))
def t__law_leaf_3 (K : Frag) (E : XK) : TS :=
    tSeq (tAsg (tOp (oIx K) (dLst (tCons (tC (.int 0)) (tCons (tUn uNeg (tC (.int 1))) (tCons (tC (.int 1)) (tNil))))) (dCall (sp__law_draw K) (EW E) (tCons (dVar 0) (tCons (dVar 1) (tCons (tC (.int 3)) (tNil)))))) (gName 6))
    (stop (t__law_leaf_4 K E))
def t__law_leaf_2 (K : Frag) (E : XK) : TS :=
    tSeq (tAsg (dLst (tNil)) (gName 5))
    (stop (t__law_leaf_3 K E))
def t__law_leaf_1 (K : Frag) (E : XK) : TS :=
    tSeq (dIfS (dAnd (dCmpT oGt (dVar 3) (tC (.int 1))) (dCmpT oGt (tCB (cLen K) (tCons (dVar 2) (tNil))) (tC (.int 0)))) (tSeq (tAsg (tOp (oIx K) (dVar 2) (dCall (sp__law_draw K) (EW E) (tCons (dVar 0) (tCons (dVar 1) (tCons (tCB (cLen K) (tCons (dVar 2) (tNil))) (tNil)))))) (gName 4))
    (tSeq (dIfS (dCmpT (oEq K) (dVar 3) (tC (.int 2))) (tRet (dTup K (tCons (tC (.str "present")) (tCons (tOp (oIx K) (dVar 4) (tC (.int 0))) (tNil))))) (tNext))
    (tRet (dTup K (tCons (tC (.str "bit")) (tCons (tOp (oIx K) (dVar 4) (tC (.int 0))) (tCons (dCall (sp__law_draw K) (EW E) (tCons (dVar 0) (tCons (dVar 1) (tCons (tOp (oAdd K) (tOp (oIx K) (dVar 4) (tC (.int 1))) (tC (.int 3))) (tNil))))) (tNil)))))))) (tNext))
    (stop (t__law_leaf_2 K E))
def t__law_leaf (K : Frag) (E : XK) : TS :=
    tSeq (tAsg (dCall (sp__law_draw K) (EW E) (tCons (dVar 0) (tCons (dVar 1) (tCons (tC (.int 4)) (tNil))))) (gName 3))
    (stop (t__law_leaf_1 K E))
end S
-- fn: _law_leaf
-- law: k41
-- deps: Stp Fstay Nm _law_number _law_draw _law_value Tw
namespace S
open PySem PySem.Spec PyProof.Rows L2
def sp__law_leaf (K : Frag) : Sp := fun vs H Q _ => ∃ (a st p : Addr) (ys : List V) (cs : List Col), vs = [.ref a, .ref st, .ref p] ∧ Ctx K H a st ∧ H p = some (.lst ys) ∧ p ≠ st ∧ Cols K H ys cs ∧ cs.length ≤ 60 ∧ (cs.map fun c => c.1).Nodup ∧ (∀ c ∈ cs, 1 ≤ c.2 ∧ c.2 ≤ 100) ∧
  ∀ (x : Addr) (s : Stp) (H' : Hp), StA K H H' x s → s.leafS (cs.map fun c => c.1) → Ctx K H' a st → SameX st H H' → Q (.ref x) H'
theorem cols_atL {K : Frag} {H : Hp} : ∀ {ys : List V} {cs : List Col} {i : Nat} {y : V}, Cols K H ys cs → ys[i]? = some y → ∃ c, cs[i]? = some c ∧ ColT K H c y
  | _, _, i, _, .nil, h => by simp at h
  | _, _, 0, _, .cons h _, e => by
    rw [List.getElem?_cons_zero] at e
    cases e
    exact ⟨_, rfl, h⟩
  | _, _, i + 1, _, .cons _ t, e => by
    rw [List.getElem?_cons_succ] at e
    obtain ⟨x, hx, hp⟩ := cols_atL t e
    exact ⟨x, by rw [List.getElem?_cons_succ]; exact hx, hp⟩
theorem cols_snocL {K : Frag} {H : Hp} {y : V} {c : Col} : ∀ {ys : List V} {cs : List Col}, Cols K H ys cs → ColT K H c y → Cols K H (ys ++ [y]) (cs ++ [c])
  | _, _, .nil, h => .cons h .nil
  | _, _, .cons a t, h => .cons a (cols_snocL t h)
theorem leaf_bd {b fc r p : Int} {i : Nat} (h : -(1 + i * 2 ^ 101 : Int) ≤ b ∧ b ≤ 1 + i * 2 ^ 101) (f0 : -4 ≤ fc) (f1 : fc ≤ 4) (r0 : -(2 ^ (p - 1).toNat : Int) ≤ r) (r1 : r < 2 ^ (p - 1).toNat) (p0 : 1 ≤ p) (p1 : p ≤ 100) : -(1 + ((i + 1 : Nat) : Int) * 2 ^ 101) ≤ b + fc * r ∧ b + fc * r ≤ 1 + ((i + 1 : Nat) : Int) * 2 ^ 101 := by
  have hp := pow_up (p := (p - 1).toNat) (q := 99) (by omega)
  have e : (2 : Int) ^ 101 = 4 * 2 ^ 99 := by decide
  have h99 : (0 : Int) < 2 ^ 99 := by decide
  have hr : r.natAbs ≤ (2 ^ 99 : Int).natAbs := by omega
  have hm : (fc * r).natAbs ≤ 4 * (2 ^ 99 : Int).natAbs := by
    rw [Int.natAbs_mul]
    exact Nat.mul_le_mul (by omega) hr
  rw [Int.natCast_add, Int.add_mul]
  omega
theorem leaf_w {b : Int} {i : Nat} (h : -(1 + i * 2 ^ 101 : Int) ≤ b ∧ b ≤ 1 + i * 2 ^ 101) (hi : i ≤ 60) : widI b ≤ 190 := by
  have e : (2 : Int) ^ 101 = 2535301200456458802993406410752 := by decide
  have e2 : (2 : Int) ^ 110 = 1298074214633706907132624082305024 := by decide
  have : widI b ≤ 111 := widI_le (k := 110) (by omega) (by omega)
  omega
theorem pure__law_leaf {K : Frag} (vs : List V) (H : Hp) (Q : VK) (E : XK) (h : sp__law_leaf K vs H Q E) : t__law_leaf K E { nx := fun _ H' => Q .non H', rt := Q } (start ["_law_script", "_law_state", "_law_columns_here", "_law_kind", "_law_column", "_law_terms", "_law_bound", "_law_factor"] vs) H := by
  obtain ⟨a, st, p, ys, cs, rfl, hc, hp, pst, hC, lcs, ndC, wd, q⟩ := h
  obtain ⟨l0, hst⟩ := ctx_st hc
  have lys : ys.length = cs.length := (Paired.length hC).symm
  walk_at "gx"
  refine ⟨a, st, _, rfl, hc, by decide, fun kd H1 k0 k1 c1 e1 => ?_⟩
  have hp1 := e1 _ _ hp pst
  have hC1 := hC.x e1 hst
  have atm : ∀ (col : Option V) (H2 : Hp), Ctx K H2 a st → SameX st H H2 → t__law_leaf_2 K E { nx := fun _ H' => Q .non H', rt := Q } [some (.ref a), some (.ref st), some (.ref p), some (.int kd), col, none, none, none] H2 := by
    intro col H2 c2 s2
    have hp2 := s2 _ _ hp pst
    walk_at "gx"
    refine ⟨fun d nd => ?_⟩
    have f := same_new (o := .lst ([] : List V)) nd
    have c3 := c2.same f
    have dst := ctx_ne c2 nd
    have dp : d ≠ p := Ne.symm (ne_of_none hp2 nd)
    have hd : upd H2 d (.lst ([] : List V)) d = some (.lst []) := upd_same
    have s3 : SameX st H2 (upd H2 d (.lst ([] : List V))) := Same.x f
    generalize upd H2 d (.lst ([] : List V)) = H3 at *
    walk_at "gx"
    refine ⟨fun g ng => ?_⟩
    have f4 := same_new (o := .lst [.int 0, .int (-1), .int 1]) ng
    have gst := ctx_ne c3 ng
    have c4 := c3.same f4
    have hg : upd H3 g (.lst [.int 0, .int (-1), .int 1]) g = some (.lst [.int 0, .int (-1), .int 1]) := upd_same
    have hd4 := f4 _ _ hd
    have s4 : SameX st H2 (upd H3 g (.lst [.int 0, .int (-1), .int 1])) := s3.trans (Same.x f4)
    show dCall _ _ _ _ (upd H3 g (.lst [.int 0, .int (-1), .int 1])) _
    generalize upd H3 g (.lst [.int 0, .int (-1), .int 1]) = H4 at *
    refine ⟨a, st, _, rfl, c4, by decide, fun w H5 w0 w1 c5 e5 => ?_⟩
    have w1 : w < 3 := w1
    obtain ⟨j, rfl⟩ := Int.eq_ofNat_of_zero_le w0
    have hj : j < 3 := by omega
    obtain ⟨b, hb, bb⟩ : ∃ b : Int, ([V.int 0, V.int (-1), V.int 1])[j]? = some (.int b) ∧ -1 ≤ b ∧ b ≤ 1 := by
      rcases j with _ | _ | _ | j
      · exact ⟨0, rfl, by decide⟩
      · exact ⟨-1, rfl, by decide⟩
      · exact ⟨1, rfl, by decide⟩
      · omega
    refine Rd.l (e5 _ _ hg gst) (S.At.of (v := .int b) (atI_nat hb) ?_)
    have hd5 := e5 _ _ hd4 dst
    have s5 := s4.trans e5
    refine ⟨?_⟩
    obtain ⟨l2, hst2⟩ := ctx_st c2
    have hC2 := hC.x s2 hst
    have hp2X : ∀ {U : Hp}, SameX st H2 U → U p = some (.lst ys) := fun e => e _ _ hp2 pst
    have hC2X : ∀ {U : Hp}, SameX st H2 U → Cols K U ys cs := fun e => hC2.x e hst2
    walk_at "gx"
    refine for_lst (K := K) (xs := ys) (fun i σ W => ∃ (T : Tms) (zs : List V) (b : Int) (x4 x7 : Option V), σ = [some (.ref a), some (.ref st), some (.ref p), some (.int kd), x4, some (.ref d), some (.int b), x7] ∧ W d = some (.lst zs) ∧ Cols K W zs T ∧ (nmT T).Sublist ((cs.map fun c => c.1).take i) ∧ (∀ t ∈ T, -4 ≤ t.2 ∧ t.2 ≤ 4) ∧ (-(1 + i * 2 ^ 101 : Int) ≤ b ∧ b ≤ 1 + i * 2 ^ 101) ∧ Ctx K W a st ∧ SameX st H2 W) (hp2X s5) ⟨[], [], b, col, none, rfl, hd5, .nil, List.nil_sublist _, (fun _ z => nomatch z), (by simp only [Int.natCast_zero, Int.zero_mul]; omega), c5, s5⟩ (fun i σ W ⟨_, _, _, _, _, _, _, _, _, _, _, _, z⟩ => hp2X z) ?_ ?_
    · rintro i y σ W hi ⟨T, zs, b, x4, x7, rfl, hz, hT, sub, sm, bb, c, s⟩
      obtain ⟨t, ht, ad, rfl, hv⟩ := cols_atL (hC2X s) hi
      have il : i < cs.length := (List.getElem?_eq_some_iff.mp ht).1
      have tk : (cs.map fun c => c.1).take (i + 1) = (cs.map fun c => c.1).take i ++ [t.1] := by rw [List.take_add_one, List.getElem?_map, ht]; rfl
      have ltm := List.mem_of_getElem? ht
      have lT : T.length ≤ cs.length := by have := sub.length_le; unfold nmT at this; rw [List.length_map, List.length_take, List.length_map] at this; omega
      have lzs : zs.length = T.length := (Paired.length hT).symm
      have hvX : ∀ {U : Hp}, SameX st W U → SqT K U ad [.str t.1, .int t.2] := fun e => e.tup hv (ctx_st c).choose_spec
      walk_at "gx"
      refine ⟨a, st, _, rfl, c, by decide, fun w6 H6 _ _ c6 e6 => ?_⟩
      refine ifd (fun hlt => ?_) (fun hlt => ?_)
      · walk_at "gx"
        refine ⟨fun g2 ng2 => ?_⟩
        have f7 := same_new (o := .lst [.int 1, .int (-1), .int 2, .int 0, .int (-3), .int 4, .int 3, .int (-2), .int (-4)]) ng2
        have g2st := ctx_ne c6 ng2
        have c7 := c6.same f7
        have hg2 : upd H6 g2 (.lst [.int 1, .int (-1), .int 2, .int 0, .int (-3), .int 4, .int 3, .int (-2), .int (-4)]) g2 = some (.lst [.int 1, .int (-1), .int 2, .int 0, .int (-3), .int 4, .int 3, .int (-2), .int (-4)]) := upd_same
        have s7 : SameX st W (upd H6 g2 (.lst [.int 1, .int (-1), .int 2, .int 0, .int (-3), .int 4, .int 3, .int (-2), .int (-4)])) := e6.trans (Same.x f7)
        show dCall _ _ _ _ (upd H6 g2 (.lst [.int 1, .int (-1), .int 2, .int 0, .int (-3), .int 4, .int 3, .int (-2), .int (-4)])) _
        generalize upd H6 g2 (.lst [.int 1, .int (-1), .int 2, .int 0, .int (-3), .int 4, .int 3, .int (-2), .int (-4)]) = H7 at *
        refine ⟨a, st, _, rfl, c7, by decide, fun w8 H8 w80 w81 c8 e8 => ?_⟩
        have w81 : w8 < 9 := w81
        obtain ⟨j8, rfl⟩ := Int.eq_ofNat_of_zero_le w80
        have hj8 : j8 < 9 := by omega
        obtain ⟨fc, hfc, fc1, fc2⟩ : ∃ fc : Int, ([V.int 1, V.int (-1), V.int 2, V.int 0, V.int (-3), V.int 4, V.int 3, V.int (-2), V.int (-4)])[j8]? = some (.int fc) ∧ -4 ≤ fc ∧ fc ≤ 4 := by
          rcases j8 with _ | _ | _ | _ | _ | _ | _ | _ | _ | j8
          · exact ⟨1, rfl, by decide, by decide⟩
          · exact ⟨-1, rfl, by decide, by decide⟩
          · exact ⟨2, rfl, by decide, by decide⟩
          · exact ⟨0, rfl, by decide, by decide⟩
          · exact ⟨-3, rfl, by decide, by decide⟩
          · exact ⟨4, rfl, by decide, by decide⟩
          · exact ⟨3, rfl, by decide, by decide⟩
          · exact ⟨-2, rfl, by decide, by decide⟩
          · exact ⟨-4, rfl, by decide, by decide⟩
          · omega
        refine Rd.l (e8 _ _ hg2 g2st) (S.At.of (v := .int fc) (atI_nat hfc) ?_)
        have s8 := s7.trans e8
        have hv8 := hvX s8
        have hz8 := s8 _ _ hz dst
        have hT8 := hT.x s8 (ctx_st c).choose_spec
        have lz : zs.length < sizeLine := by rw [sizeLine_eq]; omega
        refine IsL.of hz8 ?_
        refine ⟨_, .inr hv8, S.At.of (v := .str t.1) rfl ?_⟩
        refine Need.mk (by rw [sizeLine_eq]; show 2 ≤ 16777216; decide) ⟨fun tt H9 e9 htt => ?_⟩
        have hz9 := e9 _ _ hz8
        have ex : SameX d H9 (L2.upd H9 d (.lst (zs ++ [.ref tt]))) := SameX.upd
        refine Ls.of hz9 (Need.mk lz ?_)
        have c10 : Ctx K (L2.upd H9 d (.lst (zs ++ [.ref tt]))) a st := (c8.same e9).mut c2 nd
        have s10 : SameX st H2 (L2.upd H9 d (.lst (zs ++ [.ref tt]))) := SameX.mut ((s.trans s8).trans (Same.x e9)) nd
        have hv10 := ex.tup (Same.tup e9 hv8) hz9
        have hz10 : L2.upd H9 d (.lst (zs ++ [.ref tt])) d = some (.lst (zs ++ [.ref tt])) := upd_same
        have hT10 := cols_snocL ((hT8.same e9).x ex hz9) (c := (t.1, fc)) ⟨tt, rfl, ex.tup htt hz9⟩
        refine ⟨_, .inr hv10, S.At.of (v := .int t.2) rfl ?_⟩
        refine ⟨a, st, t.2, rfl, c10, (wd t ltm).1, (wd t ltm).2, fun r H11 r0 r1 c11 e11 => ?_⟩
        refine Need.mk (.inl ⟨by omega, by omega⟩) ?_
        refine ⟨T ++ [(t.1, fc)], _, _, _, _, rfl, e11 _ _ hz10 dst, hT10.x e11 (ctx_st c10).choose_spec, ?_, fun u hu => ?_, leaf_bd bb fc1 fc2 r0 r1 (wd t ltm).1 (wd t ltm).2, c11, s10.trans e11⟩
        · rw [tk]
          unfold nmT
          rw [List.map_append]
          exact sub.append (List.Sublist.refl _)
        · rcases List.mem_append.mp hu with hu | hu
          · exact sm u hu
          · rw [List.mem_singleton.mp hu]; exact ⟨fc1, fc2⟩
      · refine ⟨T, zs, b, _, _, rfl, e6 _ _ hz dst, hT.x e6 (ctx_st c).choose_spec, ?_, sm, (by rw [Int.natCast_add, Int.add_mul]; have : (0 : Int) < 2 ^ 101 := (by decide); omega), c6, s.trans e6⟩
        rw [tk]
        exact sub.trans (List.sublist_append_left _ _)
    · rintro σ W ⟨T, zs, b, x4, x7, rfl, hz, hT, sub, sm, bb, c, s⟩
      have sub2 : (nmT T).Sublist (cs.map fun c => c.1) := sub.trans (List.take_sublist _ _)
      walk_at "gx"
      refine ⟨fun x H9 e9 hx => ?_⟩
      exact q x (.atm T b) H9 ⟨d, zs, hx, (by cases hd0 : H d with | none => rfl | some o => have := s2 _ _ hd0 dst; rw [nd] at this; cases this), e9 _ _ hz, hT.same e9⟩ ⟨⟨sub2.nodup ndC, fun z hz => sub2.subset hz, sm, Nat.le_trans (leaf_w bb (by rw [lys]; exact lcs)) (by decide)⟩, leaf_w bb (by rw [lys]; exact lcs)⟩ (c.same e9) ((s2.trans s).trans (Same.x e9))
  walk_at "gx"
  have leaf2 : ∀ (col : Option V) (H2 : Hp), Ctx K H2 a st → SameX st H H2 → stop (t__law_leaf_2 K E) { nx := fun _ H' => Q .non H', rt := Q } [some (.ref a), some (.ref st), some (.ref p), some (.int kd), col, none, none, none] H2 := fun col H2 c2 s2 => ⟨atm col H2 c2 s2⟩
  refine ifd (fun hk => ?_) (fun hk => ?_)
  · refine Rd.l hp1 ?_
    refine ifd (fun hl => ?_) (fun hl => ?_)
    · refine Rd.l hp1 ?_
      refine ⟨a, st, _, rfl, c1, by omega, fun w H2 w0 w1 c2 e2 => ?_⟩
      have w1 : w < (ys.length : Int) := w1
      obtain ⟨j, rfl⟩ := Int.eq_ofNat_of_zero_le w0
      have hj : j < ys.length := by omega
      have hget : ys[j]? = some ys[j] := List.getElem?_eq_getElem hj
      have s2 := e1.trans e2
      obtain ⟨t, ht, ad, et, hv⟩ := cols_atL (hC.x s2 hst) hget
      have tm : t ∈ cs := List.mem_of_getElem? ht
      have hget : ys[j]? = some (.ref ad) := by rw [hget, et]
      refine Rd.l (s2 _ _ hp pst) (S.At.of (v := .ref ad) (atI_nat hget) ?_)
      refine ifd (fun h2 => ?_) (fun h2 => ?_)
      · refine ⟨_, .inr hv, S.At.of (v := .str t.1) rfl ?_⟩
        refine Need.mk (by rw [sizeLine_eq]; show 2 ≤ 16777216; decide) ⟨fun x H3 e3 hx => ?_⟩
        exact q x (.prs t.1) H3 hx ⟨List.mem_map.mpr ⟨t, tm, rfl⟩, True.intro⟩ (c2.same e3) (s2.trans (Same.x e3))
      · refine ⟨_, .inr hv, S.At.of (v := .str t.1) rfl ?_⟩
        refine ⟨_, .inr hv, S.At.of (v := .int t.2) rfl ?_⟩
        have := wd t tm
        refine ⟨a, st, _, rfl, c2, by show 0 < t.2 + 3; omega, fun pl H3 p0 p1 c3 e3 => ?_⟩
        have p1 : pl < t.2 + 3 := p1
        refine Need.mk (by rw [sizeLine_eq]; show 3 ≤ 16777216; decide) ⟨fun x H4 e4 hx => ?_⟩
        exact q x (.bit t.1 pl) H4 hx ⟨⟨List.mem_map.mpr ⟨t, tm, rfl⟩, p0, by omega⟩, by show pl ≤ 900; omega⟩ (c3.same e4) ((s2.trans e3).trans (Same.x e4))
    · exact leaf2 none H1 c1 e1
  · exact leaf2 none H1 c1 e1
end S
namespace S
open PySem PySem.Spec PyProof.Rows L2
def t__law_recipe_b1_1 (K : Frag) (E : XK) : TS :=
    dIfS (dAnd (dCmpT oGt (dVar 7) (tC (.int 7))) (dCmpT oGt (tCB (cLen K) (tCons (dVar 5) (tNil))) (tC (.int 1)))) (tSeq (tDrop (dML K mApp (dVar 4) (tCons (tOp (oIx K) (dLst (tCons (dTup K (tCons (tC (.str "and")) (tNil))) (tCons (dTup K (tCons (tC (.str "or")) (tNil))) (tNil)))) (tOp oSub (dVar 7) (tC (.int 8)))) (tNil))))
    (tSeq (tAsg (dML K mPop (dVar 5) tNil) (gName 8))
    (tAsg (tOp (oAdd K) (tOp (oAdd K) (tOp (oIx K) (dVar 5) (tUn uNeg (tC (.int 1)))) (dVar 8)) (tC (.int 1))) (gSub (dVar 5) (tUn uNeg (tC (.int 1))) oSet)))) (dIfS (dAnd (dCmpT (oEq K) (dVar 7) (tC (.int 7))) (dAnd (dCmpT oGt (tCB (cLen K) (tCons (dVar 5) (tNil))) (tC (.int 0))) (dCmpT oLt (tCB (cSum K) (tCons (dVar 5) (tNil))) (tC (.int 7))))) (tSeq (tDrop (dML K mApp (dVar 4) (tCons (dTup K (tCons (tC (.str "twice")) (tNil))) (tNil))))
    (tDrop (dML K mApp (dVar 5) (tCons (tOp (oIx K) (dVar 5) (tUn uNeg (tC (.int 1)))) (tNil))))) (dIfS (dAnd (dCmpT oGt (dVar 7) (tC (.int 4))) (dCmpT oGt (tCB (cLen K) (tCons (dVar 5) (tNil))) (tC (.int 0)))) (tSeq (tDrop (dML K mApp (dVar 4) (tCons (tOp (oIx K) (dLst (tCons (dTup K (tCons (tC (.str "not")) (tNil))) (tCons (dTup K (tCons (tC (.str "sure")) (tNil))) (tNil)))) (tOp oMod (tCB cInt (tCons (dVar 7) (tNil))) (tC (.int 2)))) (tNil))))
    (tAsg (tOp (oAdd K) (tOp (oIx K) (dVar 5) (tUn uNeg (tC (.int 1)))) (tC (.int 1))) (gSub (dVar 5) (tUn uNeg (tC (.int 1))) oSet))) (tSeq (tDrop (dML K mApp (dVar 4) (tCons (dCall (sp__law_leaf K) (EW E) (tCons (dVar 0) (tCons (dVar 1) (tCons (dVar 2) (tNil))))) (tNil))))
    (tDrop (dML K mApp (dVar 5) (tCons (tC (.int 1)) (tNil)))))))
def t__law_recipe_b1 (K : Frag) (E : XK) : TS :=
    tSeq (tAsg (dCall (sp__law_draw K) (EW E) (tCons (dVar 0) (tCons (dVar 1) (tCons (tC (.int 10)) (tNil))))) (gName 7))
    (stop (t__law_recipe_b1_1 K E))
def t__law_recipe_b2 (K : Frag) (E : XK) : TS :=
    tDrop (dML K mApp (dVar 4) (tCons (tOp (oIx K) (dLst (tCons (dTup K (tCons (tC (.str "and")) (tNil))) (tCons (dTup K (tCons (tC (.str "or")) (tNil))) (tNil)))) (dCall (sp__law_draw K) (EW E) (tCons (dVar 0) (tCons (dVar 1) (tCons (tC (.int 2)) (tNil)))))) (tNil)))
def t__law_recipe_4 (K : Frag) (E : XK) : TS :=
    tRet (dVar 4)
def t__law_recipe_3 (K : Frag) (E : XK) : TS :=
    tSeq (dFor (iRng (tCons (tOp oSub (tCB (cLen K) (tCons (dVar 5) (tNil))) (tC (.int 1))) (tNil))) (gName 6) (t__law_recipe_b2 K E))
    (stop (t__law_recipe_4 K E))
def t__law_recipe_2 (K : Frag) (E : XK) : TS :=
    tSeq (dFor (iRng (tCons (tOp (oAdd K) (tC (.int 1)) (dCall (sp__law_draw K) (EW E) (tCons (dVar 0) (tCons (dVar 1) (tCons (dVar 3) (tNil)))))) (tNil))) (gName 6) (t__law_recipe_b1 K E))
    (stop (t__law_recipe_3 K E))
def t__law_recipe_1 (K : Frag) (E : XK) : TS :=
    tSeq (tAsg (dLst (tNil)) (gName 5))
    (stop (t__law_recipe_2 K E))
def t__law_recipe (K : Frag) (E : XK) : TS :=
    tSeq (tAsg (dLst (tNil)) (gName 4))
    (stop (t__law_recipe_1 K E))
end S
-- fn: _law_recipe
-- law: k41
-- deps: _law_leaf Rcp Fstay LastV
namespace S
open PySem PySem.Spec PyProof.Rows L2
def sp__law_recipe (K : Frag) : Sp := fun vs H Q _ => ∃ (a st p : Addr) (m : Int) (ys : List V) (cs : List Col), vs = [.ref a, .ref st, .ref p, .int m] ∧ Ctx K H a st ∧ H p = some (.lst ys) ∧ p ≠ st ∧ Cols K H ys cs ∧ cs.length ≤ 60 ∧ (cs.map fun c => c.1).Nodup ∧ (∀ c ∈ cs, 1 ≤ c.2 ∧ c.2 ≤ 100) ∧ 0 < m ∧ m ≤ 40 ∧
  ∀ (r : Addr) (xs : List Addr) (ss : List Stp) (H' : Hp), H r = none → H' r = some (.lst (xs.map V.ref)) → Paired (fun s x => StA K H H' x s) ss xs → okR ss 0 = some 1 → (costR ss : Int) ≤ m → (ss.length : Int) ≤ 2 * m → (∀ s ∈ ss, s.isLeaf = true → s.leafS (cs.map fun c => c.1)) → Ctx K H' a st → SameX st H H' → Q (.ref r) H'
/-- the loop's invariant: H the heap at the entry, B behind the two new lists -/
structure Rc (K : Frag) (H B : Hp) (a st r z : Addr) (cs : List Col) (xs : List Addr) (ss : List Stp) (zs : List Int) (W : Hp) : Prop where
  hr : W r = some (.lst (xs.map V.ref))
  hz : W z = some (.lst (zs.map V.int))
  hs : Paired (fun s x => StA K B W x s) ss xs
  lf : ∀ s ∈ ss, s.isLeaf = true → s.leafS (cs.map fun c => c.1)
  c : Ctx K W a st
  s : SameX st H W
  al : ∀ l, W l = none → B l = none
/-- what holds of the lists' places -/
structure Pc (K : Frag) (H B : Hp) (a st r z : Addr) : Prop where
  c : Ctx K H a st
  nr : H r = none
  nz : H z = none
  br : ∃ o, B r = some o
  bz : ∃ o, B z = some o
  bst : ∃ o, B st = some o
  rz : r ≠ z
theorem st_snoc {α β : Type} {P : α → β → Prop} : ∀ {xs : List α} {ys : List β} {x : α} {y : β}, Paired P xs ys → P x y → Paired P (xs ++ [x]) (ys ++ [y])
  | _, _, _, _, .nil, h => .cons h .nil
  | _, _, _, _, .cons a t, h => .cons a (st_snoc t h)
section
variable {K : Frag} {H B W : Hp} {a st r z : Addr} {cs : List Col} {xs : List Addr} {ss : List Stp} {zs : List Int}
theorem Pc.rst (P : Pc K H B a st r z) : r ≠ st := ctx_ne P.c P.nr
theorem Pc.zst (P : Pc K H B a st r z) : z ≠ st := ctx_ne P.c P.nz
theorem Rc.x {W' : Hp} (b : Rc K H B a st r z cs xs ss zs W) (P : Pc K H B a st r z) (e : SameX st W W') (c : Ctx K W' a st) : Rc K H B a st r z cs xs ss zs W' := by
  obtain ⟨l0, hst⟩ := ctx_st b.c
  obtain ⟨o, h0⟩ := P.bst
  exact ⟨e _ _ b.hr P.rst, e _ _ b.hz P.zst, Paired.mapP b.hs fun _ _ h => h.x e hst h0, b.lf, c, b.s.trans e, fun l hl => b.al l (by
    cases h : W l with
    | none => rfl
    | some o =>
      by_cases g : l = st
      · obtain ⟨l1, h1⟩ := ctx_st c
        rw [g, h1] at hl; cases hl
      · rw [e _ _ h g] at hl; cases hl)⟩
theorem Rc.same {W' : Hp} (b : Rc K H B a st r z cs xs ss zs W) (e : Same W W') : Rc K H B a st r z cs xs ss zs W' :=
  ⟨e _ _ b.hr, e _ _ b.hz, Paired.mapP b.hs fun _ _ h => h.same e, b.lf, b.c.same e, b.s.trans (Same.x e), fun l hl => b.al l (by cases h : W l with | none => rfl | some o => rw [e _ _ h] at hl; cases hl)⟩
/-- a step is appended -/
theorem Rc.putr {x : Addr} {s : Stp} (b : Rc K H B a st r z cs xs ss zs W) (P : Pc K H B a st r z) (hx : StA K B W x s) (hl : s.isLeaf = true → s.leafS (cs.map fun c => c.1)) : Rc K H B a st r z cs (xs ++ [x]) (ss ++ [s]) zs (upd W r (.lst (xs.map V.ref ++ [.ref x]))) := by
  have e : SameX r W (upd W r (.lst (xs.map V.ref ++ [.ref x]))) := SameX.upd
  obtain ⟨o, h0⟩ := P.br
  refine ⟨by rw [upd_same, List.map_append]; rfl, e _ _ b.hz (Ne.symm P.rz), st_snoc (Paired.mapP b.hs fun _ _ h => h.x e b.hr h0) (hx.x e b.hr h0), fun t ht => ?_, b.c.mut P.c P.nr, SameX.mut b.s P.nr, fun l hl => b.al l (by
    by_cases g : l = r
    · rw [g, upd_same] at hl; cases hl
    · rw [upd_ne g] at hl; exact hl)⟩
  rcases List.mem_append.mp ht with ht | ht
  · exact b.lf t ht
  · rw [List.mem_singleton.mp ht]; exact hl
/-- the sizes change -/
theorem Rc.putz {zs' : List Int} {l : List V} (b : Rc K H B a st r z cs xs ss zs W) (P : Pc K H B a st r z) (el : l = zs'.map V.int) : Rc K H B a st r z cs xs ss zs' (upd W z (.lst l)) := by
  subst el
  have e : SameX z W (upd W z (.lst (zs'.map V.int))) := SameX.upd
  obtain ⟨o, h0⟩ := P.bz
  exact ⟨e _ _ b.hr P.rz, upd_same, Paired.mapP b.hs fun _ _ h => h.x e b.hz h0, b.lf, b.c.mut P.c P.nz, SameX.mut b.s P.nz, fun l hl => b.al l (by
    by_cases g : l = z
    · rw [g, upd_same] at hl; cases hl
    · rw [upd_ne g] at hl; exact hl)⟩
end
theorem pure__law_recipe {K : Frag} (vs : List V) (H : Hp) (Q : VK) (E : XK) (h : sp__law_recipe K vs H Q E) : t__law_recipe K E { nx := fun _ H' => Q .non H', rt := Q } (start ["_law_script", "_law_state", "_law_columns_here", "_law_most", "_law_recipe_here", "_law_sizes", "_law_k", "_law_kind", "_law_last"] vs) H := by
  obtain ⟨a, st, p, m, ys, cs, rfl, hc, hp, pst, hC, lcs, ndC, wd, m0, m1, q⟩ := h
  walk_at "gx"
  refine ⟨fun r nr => ?_⟩
  have f1 := same_new (o := .lst ([] : List V)) nr
  have hr1 : upd H r (.lst ([] : List V)) r = some (.lst []) := upd_same
  generalize upd H r (.lst ([] : List V)) = H1 at *
  walk_at "gx"
  refine ⟨fun z nz => ?_⟩
  have f2 := same_new (o := .lst ([] : List V)) nz
  have hz2 : upd H1 z (.lst ([] : List V)) z = some (.lst []) := upd_same
  have rz : r ≠ z := ne_of_none hr1 nz
  have hr2 := f2 _ _ hr1
  generalize upd H1 z (.lst ([] : List V)) = B at *
  have f12 := f1.trans f2
  obtain ⟨l0, hst⟩ := ctx_st hc
  have nzH : H z = none := by cases h : H z with | none => rfl | some o => rw [f1 _ _ h] at nz; cases nz
  have P : Pc K H B a st r z := ⟨hc, nr, nzH, ⟨_, hr2⟩, ⟨_, hz2⟩, ⟨_, f12 _ _ hst⟩, rz⟩
  have b0 : Rc K H B a st r z cs [] [] [] B := ⟨hr2, hz2, .nil, (fun _ z => nomatch z), hc.same f12, Same.x f12, fun _ h => h⟩
  walk_at "gx"
  refine ⟨a, st, m, rfl, b0.c, m0, fun n H3 n0 n1 c3 e3 => ?_⟩
  have b3 := b0.x P e3 c3
  refine Need.mk (by omega) ?_
  show LoopR _ _ _ _ (Itr 0 (1 + n).toNat) H3
  refine for_rng (fun i σ W => ∃ (xs : List Addr) (ss : List Stp) (zs : List Int) (x6 x7 x8 : Option V), σ = [some (.ref a), some (.ref st), some (.ref p), some (.int m), some (.ref r), some (.ref z), x6, x7, x8] ∧ Rc K H B a st r z cs xs ss zs W ∧ okR ss 0 = some zs.length ∧ costR ss ≤ i ∧ ss.length ≤ i ∧ zs.length ≤ i ∧ (i ≠ 0 → 1 ≤ zs.length)) ⟨[], [], [], _, _, _, rfl, b3, rfl, Nat.le_refl _, Nat.le_refl _, Nat.le_refl _, fun h => absurd rfl h⟩ ?_ ?_
  · rintro i σ W hi ⟨xs, ss, zs, x6, x7, x8, rfl, b, ok, co, ls, lz, l1⟩
    have hi : (i : Int) < 1 + n := hi
    have n1 : n < m := n1
    have lxs : xs.length = ss.length := (Paired.length b.hs).symm
    walk_at "gx"
    refine ⟨a, st, _, rfl, b.c, by decide, fun kd W1 k0 k1 c1 e1 => ?_⟩
    have k1 : kd < 10 := k1
    have b1 := b.x P e1 c1
    have hzW := b1.hz
    have hrW := b1.hr
    have lzS : (zs.map V.int).length = zs.length := List.length_map _
    -- a leaf
    have leaf : ∀ {DD : L2.Ends}, (∀ (xs : List Addr) (ss : List Stp) (zs : List Int) (W : Hp), Rc K H B a st r z cs xs ss zs W → okR ss 0 = some zs.length → costR ss ≤ i + 1 → ss.length ≤ i + 1 → zs.length ≤ i + 1 → 1 ≤ zs.length → DD.nx [some (.ref a), some (.ref st), some (.ref p), some (.int m), some (.ref r), some (.ref z), some (.int i), some (.int kd), x8] W) →
        (tSeq (tDrop (dML K mApp (dVar 4) (tCons (dCall (sp__law_leaf K) (EW E) (tCons (dVar 0) (tCons (dVar 1) (tCons (dVar 2) (tNil))))) (tNil)))) (tDrop (dML K mApp (dVar 5) (tCons (tC (.int 1)) (tNil))))) DD [some (.ref a), some (.ref st), some (.ref p), some (.int m), some (.ref r), some (.ref z), some (.int i), some (.int kd), x8] W1 := by
      intro DD nx
      obtain ⟨l3, hst3⟩ := ctx_st hc
      walk_at "gx"
      refine ⟨a, st, p, ys, cs, rfl, c1, b1.s _ _ hp pst, pst, hC.x b1.s hst, lcs, ndC, wd, fun x s W2 hx hl c2 e2 => ?_⟩
      have b2 := b1.x P e2 c2
      have hx2 := hx.older b1.al
      refine Ls.of b2.hr (Need.mk (by rw [List.length_map, sizeLine_eq]; omega) ?_)
      have b3 := b2.putr P hx2 fun _ => hl
      walk_at "gx"
      refine IsL.of b3.hz ?_
      refine Ls.of b3.hz (Need.mk (by rw [List.length_map, sizeLine_eq]; omega) ?_)
      have b4 := b3.putz (zs' := zs ++ [1]) (l := zs.map V.int ++ [.int 1]) P (by rw [List.map_append]; rfl)
      have hok : okR (ss ++ [s]) 0 = some (zs ++ [1]).length := by
        rw [okR_app, ok, List.length_append]
        cases s <;> first | rfl | exact hl.1.elim
      have hco : costR (ss ++ [s]) = costR ss + 1 := by
        rw [costR_app]
        cases s <;> first | rfl | exact hl.1.elim
      exact nx _ _ _ _ b4 hok (by rw [hco]; omega) (by rw [List.length_append]; show ss.length + 1 ≤ _; omega) (by rw [List.length_append]; show zs.length + 1 ≤ _; omega) (by rw [List.length_append]; show 1 ≤ zs.length + 1; omega)
    have caseC : 1 ≤ zs.length → ∀ {DD : L2.Ends}, (∀ (xs : List Addr) (ss : List Stp) (zs : List Int) (W : Hp) (x8 : Option V), Rc K H B a st r z cs xs ss zs W → okR ss 0 = some zs.length → costR ss ≤ i + 1 → ss.length ≤ i + 1 → zs.length ≤ i + 1 → 1 ≤ zs.length → DD.nx [some (.ref a), some (.ref st), some (.ref p), some (.int m), some (.ref r), some (.ref z), some (.int i), some (.int kd), x8] W) →
        (tSeq (tDrop (dML K mApp (dVar 4) (tCons (tOp (oIx K) (dLst (tCons (dTup K (tCons (tC (.str "not")) (tNil))) (tCons (dTup K (tCons (tC (.str "sure")) (tNil))) (tNil)))) (tOp oMod (tCB cInt (tCons (dVar 7) (tNil))) (tC (.int 2)))) (tNil)))) (tAsg (tOp (oAdd K) (tOp (oIx K) (dVar 5) (tUn uNeg (tC (.int 1)))) (tC (.int 1))) (gSub (dVar 5) (tUn uNeg (tC (.int 1))) oSet))) DD [some (.ref a), some (.ref st), some (.ref p), some (.int m), some (.ref r), some (.ref z), some (.int i), some (.int kd), x8] W1 := by
      intro hl DD nx
      obtain ⟨zs0, v, rfl⟩ : ∃ zs0 v, zs = zs0 ++ [v] := by
        rcases List.eq_nil_or_concat zs with h | ⟨L, b, h⟩
        · rw [h] at hl; exact absurd hl (by decide)
        · exact ⟨L, b, by rw [h, List.concat_eq_append]⟩
      walk_at "gx"
      refine ⟨fun t1 W2 g1 ht1 => ?_⟩
      refine Need.mk (by rw [sizeLine_eq]; show 1 ≤ 16777216; decide) ⟨fun t2 W3 g2 ht2 => ?_⟩
      refine Need.mk (by rw [sizeLine_eq]; show 2 ≤ 16777216; decide) ⟨fun g ng => ?_⟩
      have g3 := same_new (o := .lst [.ref t1, .ref t2]) ng
      have hg : upd W3 g (.lst [.ref t1, .ref t2]) g = some (.lst [.ref t1, .ref t2]) := upd_same
      have b3 := ((b1.same g1).same g2).same g3
      have ht1 := Same.tup g3 (Same.tup g2 ht1)
      have ht2 := Same.tup g3 ht2
      obtain ⟨x, s, hx, hs, hleaf, hok, hco⟩ : ∃ x s, atI [V.ref t1, V.ref t2] (kd % 2) = some (.ref x) ∧ StA K B (upd W3 g (.lst [.ref t1, .ref t2])) x s ∧ s.isLeaf = false ∧ okR (ss ++ [s]) 0 = some (zs0 ++ [v]).length ∧ costR (ss ++ [s]) = costR ss + 1 := by
        rcases Int.emod_two_eq kd with h | h
        · exact ⟨t1, .not, by rw [h]; rfl, ht1, rfl, by rw [okR_app, ok]; show (if 1 ≤ (zs0 ++ [v]).length then okR [] (zs0 ++ [v]).length else none) = _; rw [if_pos hl]; rfl, by rw [costR_app]; rfl⟩
        · exact ⟨t2, .sure, by rw [h]; rfl, ht2, rfl, by rw [okR_app, ok]; show (if 1 ≤ (zs0 ++ [v]).length then okR [] (zs0 ++ [v]).length else none) = _; rw [if_pos hl]; rfl, by rw [costR_app]; rfl⟩
      refine Need.mk (by show (0 : Int) < 2; decide) ?_
      refine Rd.l hg (S.At.of (v := .ref x) hx ?_)
      refine Ls.of b3.hr (Need.mk (by rw [List.length_map, sizeLine_eq]; omega) ?_)
      have b4 := b3.putr P hs fun h => by rw [hleaf] at h; cases h
      have hz4 : upd (upd W3 g (.lst [.ref t1, .ref t2])) r (.lst (xs.map V.ref ++ [.ref x])) z = some (.lst (zs0.map V.int ++ [.int v])) := by rw [b4.hz, List.map_append]; rfl
      refine Rd.l hz4 (S.At.of (v := .int v) (at_m1 _ _) ?_)
      refine Ls.of hz4 (Pl.of (ixN_last _ _) ?_)
      rw [set_lastV]
      have b5 := b4.putz (zs' := zs0 ++ [v + 1]) (l := zs0.map V.int ++ [.int (v + 1)]) P (by rw [List.map_append]; rfl)
      rw [List.length_append] at hok lz
      exact nx _ _ _ _ _ b5 (by rw [hok, List.length_append]; rfl) (by rw [hco]; omega) (by rw [List.length_append]; show ss.length + 1 ≤ _; omega) (by rw [List.length_append]; show zs0.length + 1 ≤ _; have : zs0.length + 1 ≤ i := lz; omega) (by rw [List.length_append]; show 1 ≤ zs0.length + 1; omega)
    have caseA : 7 < kd → 2 ≤ zs.length → ∀ {DD : L2.Ends}, (∀ (xs : List Addr) (ss : List Stp) (zs : List Int) (W : Hp) (x8 : Option V), Rc K H B a st r z cs xs ss zs W → okR ss 0 = some zs.length → costR ss ≤ i + 1 → ss.length ≤ i + 1 → zs.length ≤ i + 1 → 1 ≤ zs.length → DD.nx [some (.ref a), some (.ref st), some (.ref p), some (.int m), some (.ref r), some (.ref z), some (.int i), some (.int kd), x8] W) →
        (tSeq (tDrop (dML K mApp (dVar 4) (tCons (tOp (oIx K) (dLst (tCons (dTup K (tCons (tC (.str "and")) (tNil))) (tCons (dTup K (tCons (tC (.str "or")) (tNil))) (tNil)))) (tOp oSub (dVar 7) (tC (.int 8)))) (tNil)))) (tSeq (tAsg (dML K mPop (dVar 5) tNil) (gName 8)) (tAsg (tOp (oAdd K) (tOp (oAdd K) (tOp (oIx K) (dVar 5) (tUn uNeg (tC (.int 1)))) (dVar 8)) (tC (.int 1))) (gSub (dVar 5) (tUn uNeg (tC (.int 1))) oSet)))) DD [some (.ref a), some (.ref st), some (.ref p), some (.int m), some (.ref r), some (.ref z), some (.int i), some (.int kd), x8] W1 := by
      intro hk hl DD nx
      obtain ⟨zs0, u, v, rfl⟩ : ∃ zs0 u v, zs = zs0 ++ [u] ++ [v] := by
        rcases List.eq_nil_or_concat zs with h | ⟨L, b, h⟩
        · rw [h] at hl; exact absurd hl (by decide)
        · rw [List.concat_eq_append] at h
          rcases List.eq_nil_or_concat L with h2 | ⟨L2, b2, h2⟩
          · rw [h, h2] at hl; exact absurd hl (by show ¬ 2 ≤ 1; decide)
          · rw [List.concat_eq_append] at h2
            exact ⟨L2, b2, b, by rw [h, h2]⟩
      walk_at "gx"
      refine ⟨fun t1 W2 g1 ht1 => ?_⟩
      refine Need.mk (by rw [sizeLine_eq]; show 1 ≤ 16777216; decide) ⟨fun t2 W3 g2 ht2 => ?_⟩
      refine Need.mk (by rw [sizeLine_eq]; show 2 ≤ 16777216; decide) ⟨fun g ng => ?_⟩
      have g3 := same_new (o := .lst [.ref t1, .ref t2]) ng
      have hg : upd W3 g (.lst [.ref t1, .ref t2]) g = some (.lst [.ref t1, .ref t2]) := upd_same
      have b3 := ((b1.same g1).same g2).same g3
      have ht1 := Same.tup g3 (Same.tup g2 ht1)
      have ht2 := Same.tup g3 ht2
      obtain ⟨x, s, hx, hs, hleaf, hok, hco⟩ : ∃ x s, atI [V.ref t1, V.ref t2] (kd - 8) = some (.ref x) ∧ StA K B (upd W3 g (.lst [.ref t1, .ref t2])) x s ∧ s.isLeaf = false ∧ okR (ss ++ [s]) 0 = some ((zs0 ++ [u] ++ [v]).length - 1) ∧ costR (ss ++ [s]) = costR ss := by
        rcases (show kd = 8 ∨ kd = 9 by omega) with h | h
        · exact ⟨t1, .and, by rw [h]; rfl, ht1, rfl, by rw [okR_app, ok]; show (if 2 ≤ (zs0 ++ [u] ++ [v]).length then okR [] ((zs0 ++ [u] ++ [v]).length - 1) else none) = _; rw [if_pos hl]; rfl, by rw [costR_app]; rfl⟩
        · exact ⟨t2, .or, by rw [h]; rfl, ht2, rfl, by rw [okR_app, ok]; show (if 2 ≤ (zs0 ++ [u] ++ [v]).length then okR [] ((zs0 ++ [u] ++ [v]).length - 1) else none) = _; rw [if_pos hl]; rfl, by rw [costR_app]; rfl⟩
      refine Rd.l hg (S.At.of (v := .ref x) hx ?_)
      refine Ls.of b3.hr (Need.mk (by rw [List.length_map, sizeLine_eq]; omega) ?_)
      have b4 := b3.putr P hs fun h => by rw [hleaf] at h; cases h
      have hz4 : upd (upd W3 g (.lst [.ref t1, .ref t2])) r (.lst (xs.map V.ref ++ [.ref x])) z = some (.lst (zs0.map V.int ++ [.int u] ++ [.int v])) := by rw [b4.hz, List.map_append, List.map_append]; rfl
      refine IsL.of hz4 ?_
      refine Ls.of hz4 (S.At.of (v := .int v) (at_m1 _ _) ?_)
      rw [List.dropLast_concat]
      have b5 := b4.putz (zs' := zs0 ++ [u]) (l := zs0.map V.int ++ [.int u]) P (by rw [List.map_append]; rfl)
      have hz5 : upd (upd (upd W3 g (.lst [.ref t1, .ref t2])) r (.lst (xs.map V.ref ++ [.ref x]))) z (.lst (zs0.map V.int ++ [.int u])) z = some (.lst (zs0.map V.int ++ [.int u])) := upd_same
      refine Rd.l hz5 (S.At.of (v := .int u) (at_m1 _ _) ?_)
      refine Ls.of hz5 (Pl.of (ixN_last _ _) ?_)
      rw [set_lastV]
      have b6 := b5.putz (zs' := zs0 ++ [u + v + 1]) (l := zs0.map V.int ++ [.int (u + v + 1)]) P (by rw [List.map_append]; rfl)
      have l3 : (zs0 ++ [u] ++ [v]).length = zs0.length + 2 := by rw [List.length_append, List.length_append]; rfl
      have l4 : (zs0 ++ [u + v + 1]).length = zs0.length + 1 := List.length_append ..
      rw [l3] at hok lz
      exact nx _ _ _ _ _ b6 (by rw [hok, l4]; rfl) (by rw [hco]; omega) (by rw [List.length_append]; show ss.length + 1 ≤ _; omega) (by rw [l4]; omega) (by rw [l4]; omega)
    have caseB : 1 ≤ zs.length → ∀ {DD : L2.Ends}, (∀ (xs : List Addr) (ss : List Stp) (zs : List Int) (W : Hp) (x8 : Option V), Rc K H B a st r z cs xs ss zs W → okR ss 0 = some zs.length → costR ss ≤ i + 1 → ss.length ≤ i + 1 → zs.length ≤ i + 1 → 1 ≤ zs.length → DD.nx [some (.ref a), some (.ref st), some (.ref p), some (.int m), some (.ref r), some (.ref z), some (.int i), some (.int kd), x8] W) →
        (tSeq (tDrop (dML K mApp (dVar 4) (tCons (dTup K (tCons (tC (.str "twice")) (tNil))) (tNil)))) (tDrop (dML K mApp (dVar 5) (tCons (tOp (oIx K) (dVar 5) (tUn uNeg (tC (.int 1)))) (tNil))))) DD [some (.ref a), some (.ref st), some (.ref p), some (.int m), some (.ref r), some (.ref z), some (.int i), some (.int kd), x8] W1 := by
      intro hl DD nx
      obtain ⟨zs0, v, rfl⟩ : ∃ zs0 v, zs = zs0 ++ [v] := by
        rcases List.eq_nil_or_concat zs with h | ⟨L, b, h⟩
        · rw [h] at hl; exact absurd hl (by decide)
        · exact ⟨L, b, by rw [h, List.concat_eq_append]⟩
      walk_at "gx"
      refine ⟨fun t1 W2 g1 ht1 => ?_⟩
      have b3 := b1.same g1
      refine Ls.of b3.hr (Need.mk (by rw [List.length_map, sizeLine_eq]; omega) ?_)
      have hok : okR (ss ++ [.twice]) 0 = some ((zs0 ++ [v]).length + 1) := by rw [okR_app, ok]; show (if 1 ≤ (zs0 ++ [v]).length then okR [] ((zs0 ++ [v]).length + 1) else none) = _; rw [if_pos hl]; rfl
      have b4 := b3.putr (s := .twice) P ht1 fun h => by cases h
      have hz4 : upd W2 r (.lst (xs.map V.ref ++ [.ref t1])) z = some (.lst (zs0.map V.int ++ [.int v])) := by rw [b4.hz, List.map_append]; rfl
      walk_at "gx"
      refine S.At.of (v := .int v) (at_m1 _ _) ?_
      have l4 : (zs0 ++ [v] ++ [v]).length = zs0.length + 2 := by rw [List.length_append, List.length_append]; rfl
      have l3 : (zs0 ++ [v]).length = zs0.length + 1 := List.length_append ..
      rw [l3] at lz hok
      refine Ls.of hz4 (Need.mk (by rw [List.length_append, List.length_map, sizeLine_eq]; show zs0.length + 1 < _; omega) ?_)
      have b5 := b4.putz (zs' := zs0 ++ [v] ++ [v]) (l := zs0.map V.int ++ [.int v] ++ [.int v]) P (by rw [List.map_append, List.map_append]; rfl)
      exact nx _ _ _ _ _ b5 (by rw [hok, l4]) (by rw [costR_app]; show costR ss + 1 ≤ _; omega) (by rw [List.length_append]; show ss.length + 1 ≤ _; omega) (by rw [l4]; omega) (by rw [l4]; omega)
    have pack : ∀ (xs : List Addr) (ss : List Stp) (zs : List Int) (W : Hp) (x8 : Option V), Rc K H B a st r z cs xs ss zs W → okR ss 0 = some zs.length → costR ss ≤ i + 1 → ss.length ≤ i + 1 → zs.length ≤ i + 1 → 1 ≤ zs.length →
        ∃ (xs : List Addr) (ss : List Stp) (zs : List Int) (x6 x7 x8' : Option V), [some (V.ref a), some (.ref st), some (.ref p), some (.int m), some (.ref r), some (.ref z), some (.int i), some (.int kd), x8] = [some (.ref a), some (.ref st), some (.ref p), some (.int m), some (.ref r), some (.ref z), x6, x7, x8'] ∧ Rc K H B a st r z cs xs ss zs W ∧ okR ss 0 = some zs.length ∧ costR ss ≤ i + 1 ∧ ss.length ≤ i + 1 ∧ zs.length ≤ i + 1 ∧ (i + 1 ≠ 0 → 1 ≤ zs.length) := fun xs ss zs W x8 b h1 h2 h3 h4 h5 => ⟨xs, ss, zs, _, _, _, rfl, b, h1, h2, h3, h4, fun _ => h5⟩
    walk_at "gx"
    refine ifd (fun hA => ?_) (fun hA => ?_)
    · refine Rd.l hzW ?_
      rw [lzS]
      refine ifd (fun hl => ?_) (fun hl => ?_)
      · exact caseA hA (by omega) pack
      · refine ifd (fun h7 => ?_) (fun _ => ?_)
        · omega
        · refine ifd (fun _ => ?_) (fun h => absurd (show (4 : Int) < kd by omega) h)
          refine Rd.l hzW ?_
          rw [lzS]
          refine ifd (fun hl => ?_) (fun hl => ?_)
          · exact caseC (by omega) pack
          · exact leaf fun xs ss zs W b h1 h2 h3 h4 h5 => pack xs ss zs W x8 b h1 h2 h3 h4 h5
    · refine ifd (fun h7 => ?_) (fun h7 => ?_)
      · refine Rd.l hzW ?_
        rw [lzS]
        refine ifd (fun hl => ?_) (fun hl => ?_)
        · refine SumL.of hzW ?_
          refine ifd (fun hs7 => ?_) (fun hs7 => ?_)
          · exact caseB (by omega) pack
          · skip
            refine ifd (fun _ => ?_) (fun _ => ?_)
            · refine Rd.l hzW ?_
              rw [lzS]
              refine ifd (fun hl => ?_) (fun hl => ?_)
              · exact caseC (by omega) pack
              · exact leaf fun xs ss zs W b h1 h2 h3 h4 h5 => pack xs ss zs W x8 b h1 h2 h3 h4 h5
            · exact leaf fun xs ss zs W b h1 h2 h3 h4 h5 => pack xs ss zs W x8 b h1 h2 h3 h4 h5
        · skip
          refine ifd (fun _ => ?_) (fun _ => ?_)
          · refine Rd.l hzW ?_
            rw [lzS]
            refine ifd (fun hl => ?_) (fun hl => ?_)
            · exact caseC (by omega) pack
            · exact leaf fun xs ss zs W b h1 h2 h3 h4 h5 => pack xs ss zs W x8 b h1 h2 h3 h4 h5
          · exact leaf fun xs ss zs W b h1 h2 h3 h4 h5 => pack xs ss zs W x8 b h1 h2 h3 h4 h5
      · skip
        refine ifd (fun _ => ?_) (fun _ => ?_)
        · refine Rd.l hzW ?_
          rw [lzS]
          refine ifd (fun hl => ?_) (fun hl => ?_)
          · exact caseC (by omega) pack
          · exact leaf fun xs ss zs W b h1 h2 h3 h4 h5 => pack xs ss zs W x8 b h1 h2 h3 h4 h5
        · exact leaf fun xs ss zs W b h1 h2 h3 h4 h5 => pack xs ss zs W x8 b h1 h2 h3 h4 h5
  · rintro σ W ⟨xs, ss, zs, x6, x7, x8, rfl, b, ok, co, ls, lz, l1⟩
    walk_at "gx"
    refine Rd.l b.hz ?_
    refine Need.mk (by rw [List.length_map]; constructor <;> dsimp only <;> omega) ?_
    show LoopR _ _ _ _ (Itr 0 (((zs.map V.int).length : Int) - 1).toNat) W
    refine for_rng (fun k σ W => ∃ (xs : List Addr) (ss : List Stp) (x6 x7 x8 : Option V), σ = [some (.ref a), some (.ref st), some (.ref p), some (.int m), some (.ref r), some (.ref z), x6, x7, x8] ∧ Rc K H B a st r z cs xs ss zs W ∧ k + 1 ≤ zs.length ∧ okR ss 0 = some (zs.length - k) ∧ (costR ss : Int) ≤ m ∧ (ss.length : Int) ≤ n + 1 + k) ⟨xs, ss, x6, x7, x8, rfl, b, by omega, ok, by omega, by omega⟩ ?_ ?_
    · rintro k σ W hk ⟨xs, ss, x6, x7, x8, rfl, b, lk, ok, co, ls⟩
      have hk : (k : Int) < ((zs.map V.int).length : Int) - 1 := hk
      rw [List.length_map] at hk
      have hrW := b.hr
      have lxs : xs.length = ss.length := (Paired.length b.hs).symm
      walk_at "gx"
      refine ⟨fun t1 W1 g1 ht1 => ?_⟩
      refine Need.mk (by rw [sizeLine_eq]; show 1 ≤ 16777216; decide) ⟨fun t2 W2 g2 ht2 => ?_⟩
      refine Need.mk (by rw [sizeLine_eq]; show 2 ≤ 16777216; decide) ⟨fun g ng => ?_⟩
      have g3 := same_new (o := .lst [.ref t1, .ref t2]) ng
      have hg : upd W2 g (.lst [.ref t1, .ref t2]) g = some (.lst [.ref t1, .ref t2]) := upd_same
      have b3 := ((b.same g1).same g2).same g3
      have gst := ctx_ne ((b.same g1).same g2).c ng
      have ht1 := Same.tup g3 (Same.tup g2 ht1)
      have ht2 := Same.tup g3 ht2
      refine ⟨a, st, _, rfl, b3.c, by decide, fun w W4 w0 w1 c4 e4 => ?_⟩
      have b4 := b3.x P e4 c4
      have w1 : w < 2 := w1
      obtain ⟨j, rfl⟩ := Int.eq_ofNat_of_zero_le w0
      obtain ⟨x, s, hx, hs, hleaf, hok, hco⟩ : ∃ x s, ([V.ref t1, V.ref t2])[j]? = some (.ref x) ∧ StA K B W4 x s ∧ s.isLeaf = false ∧ okR (ss ++ [s]) 0 = some (zs.length - (k + 1)) ∧ costR (ss ++ [s]) = costR ss := by
        have two : 2 ≤ zs.length - k := by omega
        rcases j with _ | _ | j
        · exact ⟨t1, .and, rfl, e4.tup ht1 (ctx_st b3.c).choose_spec, rfl, by rw [okR_app, ok]; show (if 2 ≤ zs.length - k then okR [] (zs.length - k - 1) else none) = _; rw [if_pos two]; rfl, by rw [costR_app]; rfl⟩
        · exact ⟨t2, .or, rfl, e4.tup ht2 (ctx_st b3.c).choose_spec, rfl, by rw [okR_app, ok]; show (if 2 ≤ zs.length - k then okR [] (zs.length - k - 1) else none) = _; rw [if_pos two]; rfl, by rw [costR_app]; rfl⟩
        · omega
      refine Rd.l (e4 _ _ hg gst) (S.At.of (v := .ref x) (atI_nat hx) ?_)
      refine Ls.of b4.hr (Need.mk (by rw [List.length_map, sizeLine_eq]; omega) ?_)
      exact ⟨xs ++ [x], ss ++ [s], _, _, _, rfl, b4.putr P hs (fun h => by rw [hleaf] at h; cases h), by omega, hok, by rw [hco]; exact co, by rw [List.length_append]; show ((ss.length + 1 : Nat) : Int) ≤ _; omega⟩
    · rintro σ W ⟨xs, ss, x6, x7, x8, rfl, b, lk, ok, co, ls⟩
      have ek : (((zs.map V.int).length : Int) - 1).toNat = zs.length - 1 := by rw [List.length_map]; omega
      rw [ek] at lk ok ls
      walk_at "gx"
      refine q r xs ss W nr b.hr (Paired.mapP b.hs fun _ _ h => h.older fun l hl => ?_) (by rw [ok]; congr 1; omega) co (by omega) b.lf b.c b.s
      cases h : H l with
      | none => rfl
      | some o => rw [f12 _ _ h] at hl; cases hl
end S
namespace S
open PySem PySem.Spec PyProof.Rows L2
def t__law_is_number (K : Frag) (E : XK) : TS :=
    tRet (dAndV (tCB (cIsi K) (tCons (dVar 0) (tCons (tC (.ty "int")) (tNil)))) (dNotV (tCB (cIsi K) (tCons (dVar 0) (tCons (tC (.ty "bool")) (tNil))))))
end S
-- fn: _law_is_number
-- law: k03
-- deps: D0
namespace S
open PySem PySem.Spec PyProof.Rows L2
def sp__law_is_number (K : Frag) : Sp := fun vs H Q _ => ∃ (i : Int), vs = [.int i] ∧ Q (.bl true) H
theorem isi_int {K : Frag} {H : Hp} {i : Int} {k : Bool → Prop} (q : k true) : Isi K H (.int i) (.type "int") k := Isi.of (.base (.int i)) rfl q
theorem isi_int_bool {K : Frag} {H : Hp} {i : Int} {k : Bool → Prop} (q : k false) : Isi K H (.int i) (.type "bool") k := Isi.of (.base (.int i)) rfl q
theorem pure__law_is_number {K : Frag} (vs : List V) (H : Hp) (Q : VK) (E : XK) (h : sp__law_is_number K vs H Q E) : t__law_is_number K E { nx := fun _ H' => Q .non H', rt := Q } (start ["_law_x"] vs) H := by
  obtain ⟨i, rfl, q⟩ := h
  refine isi_int ?_
  refine isi_int_bool ?_
  exact q
end S
namespace S
open PySem PySem.Spec PyProof.Rows L2
end S
-- fn: _law_same_truth
-- law: k39
-- deps: Qs
namespace S
open PySem PySem.Spec PyProof.Rows L2
end S
namespace S
open PySem PySem.Spec PyProof.Rows L2
end S
-- fn: _law_due
-- law: k38
-- dict: _law_terms _law_row
-- deps: Fkey2 Rw
namespace S
open PySem PySem.Spec PyProof.Rows L2
end S
namespace S
open PySem PySem.Spec PyProof.Rows L2
end S
-- fn: _law_at_most
-- law: k39
-- deps: Qs _law_due_k38
namespace S
open PySem PySem.Spec PyProof.Rows L2
end S
-- deps: Rw Fm2 _law_some_pre
/-! ## rows of a law, dicts of terms -/
namespace S
open PySem PySem.Spec PyProof.Rows L2
end S
namespace S
open PySem PySem.Spec PyProof.Rows L2
end S
-- fn: _law_is_atmost
-- law: k39
-- dict: _law_terms
-- sortD: yes
-- dyn: truth
-- deps: Qs _law_same_truth _law_at_most _law_is_number Fstay Rws
namespace S
open PySem PySem.Spec PyProof.Rows L2
theorem isi_df {K : Frag} {H : Hp} {a dx : Addr} {as : List (Str × V)} {c : Str} {fs : List Str} {k : Bool → Prop} (d : DFq K c fs) (h : H a = some (.ins (He.ga K c) dx as)) (mf : MF K c ["Question"] ["object"]) (q : k true) : Isi K H (.ref a) (.ref (He.ga K c)) k := Isi.df d h mf (by rw [decide_eq_true (List.mem_cons_self ..)]; exact q)
end S
-- deps: Fstay
namespace S
open PySem PySem.Spec PyProof.Rows L2
/-! ### first occurrences -/
section
variable {κ ι : Type} [DecidableEq κ] [DecidableEq ι]
def ixF : List κ → κ → Nat
  | [], _ => 0
  | x :: l, k => if x = k then 0 else ixF l k + 1
def addD (acc : List κ) (k : κ) : List κ := if k ∈ acc then acc else acc ++ [k]
def dstA (acc l : List κ) : List κ := l.foldl addD acc
def dst (l : List κ) : List κ := dstA [] l
/-- the numbers by first occurrence -/
def num (l : List κ) : List Nat := l.map (ixF (dst l))
end
/-! ### tables and trees -/
abbrev Lvs := List (List (Nat × Nat))
abbrev Ends3 := List (Option Bool)
inductive BT where
  | lf (o : Option Bool)
  | nd (l r : BT)
  deriving DecidableEq
namespace BT
def l : BT → BT
  | .lf o => .lf o
  | .nd a _ => a
def r : BT → BT
  | .lf o => .lf o
  | .nd _ b => b
def val : BT → Option Bool
  | .lf o => o
  | .nd _ _ => none
def run : BT → List Bool → Option Bool
  | .lf o, _ => o
  | .nd a _, [] => a.val
  | .nd a b, c :: bs => if c then b.run bs else a.run bs
end BT
def gT (T : List BT) (n : Nat) : BT := T.getD n (.lf none)
/-- the trees of a level's nodes -/
def trees : Lvs → Ends3 → List BT
  | [], es => es.map BT.lf
  | ps :: ls, es => ps.map fun p => .nd (gT (trees ls es) p.1) (gT (trees ls es) p.2)
def wid : Lvs → Ends3 → Nat
  | [], es => es.length
  | ps :: _, _ => ps.length
/-- each child is there -/
def okT : Lvs → Ends3 → Prop
  | [], _ => True
  | ps :: ls, es => (∀ p ∈ ps, p.1 < wid ls es ∧ p.2 < wid ls es) ∧ okT ls es
theorem okT.drop : ∀ {ls : Lvs} {es : Ends3} (i : Nat), okT ls es → okT (ls.drop i) es
  | _, _, 0, h => h
  | [], _, _ + 1, h => h
  | _ :: _, _, i + 1, h => okT.drop i h.2
def cls : Lvs → Ends3 → List (List Nat)
  | [], es => [num (trees [] es)]
  | ps :: ls, es => num (trees (ps :: ls) es) :: cls ls es
end S
-- deps: Lay Cols
/-! ## the place of a pair in a list of pairs -/
namespace S
open PySem PySem.Spec PyProof.Rows L2
end S
-- deps: Cols Idc
/-! ## a pair among pairs -/
namespace S
open PySem PySem.Spec PyProof.Rows L2
end S
namespace S
open PySem PySem.Spec PyProof.Rows L2
def t__law_is_leaf_4 (K : Frag) (E : XK) : TS :=
    tRet (tOp (oEq K) (tCB (cList K) (tCons (dAt K "terms" (dVar 0)) (tNil))) (tCB (cSortedC K) (tCons (tOp (oIx K) (dVar 1) (tC (.int 1))) (tNil))))
def t__law_is_leaf_3 (K : Frag) (E : XK) : TS :=
    tSeq (dIfS (dOr (dNot (dTest K (tCB (cIsi K) (tCons (dAt K "terms" (dVar 0)) (tCons (tC (.ty "tuple")) (tNil)))))) (dCmpT (oNe K) (dAt K "bound" (dVar 0)) (tOp (oIx K) (dVar 1) (tC (.int 2))))) (tRet (tC (.bl false))) (tNext))
    (stop (t__law_is_leaf_4 K E))
def t__law_is_leaf_2 (K : Frag) (E : XK) : TS :=
    tSeq (dIfS (dOr (dNot (dTest K (dGiv (MF K "AtMost" ["Question"] ["object"]) (tCB (cIsi K) (tCons (dVar 0) (tCons (tC (.ref (He.ga K "AtMost"))) (tNil))))))) (dNot (dTest K (dCall (sp__law_is_number K) (EW E) (tCons (dAt K "bound" (dVar 0)) (tNil)))))) (tRet (tC (.bl false))) (tNext))
    (stop (t__law_is_leaf_3 K E))
def t__law_is_leaf_1 (K : Frag) (E : XK) : TS :=
    tSeq (dIfS (dCmpT (oEq K) (tOp (oIx K) (dVar 1) (tC (.int 0))) (tC (.str "bit"))) (tSeq (dIfS (dOr (dNot (dTest K (dGiv (MF K "HasBit" ["Question"] ["object"]) (tCB (cIsi K) (tCons (dVar 0) (tCons (tC (.ref (He.ga K "HasBit"))) (tNil))))))) (dNot (dTest K (dCall (sp__law_is_number K) (EW E) (tCons (dAt K "place" (dVar 0)) (tNil)))))) (tRet (tC (.bl false))) (tNext))
    (tRet (dAndV (tOp (oEq K) (dAt K "name" (dVar 0)) (tOp (oIx K) (dVar 1) (tC (.int 1)))) (tOp (oEq K) (dAt K "place" (dVar 0)) (tOp (oIx K) (dVar 1) (tC (.int 2))))))) (tNext))
    (stop (t__law_is_leaf_2 K E))
def t__law_is_leaf (K : Frag) (E : XK) : TS :=
    tSeq (dIfS (dCmpT (oEq K) (tOp (oIx K) (dVar 1) (tC (.int 0))) (tC (.str "present"))) (tRet (dAndV (dGiv (MF K "Present" ["Question"] ["object"]) (tCB (cIsi K) (tCons (dVar 0) (tCons (tC (.ref (He.ga K "Present"))) (tNil))))) (tOp (oEq K) (dAt K "name" (dVar 0)) (tOp (oIx K) (dVar 1) (tC (.int 1)))))) (tNext))
    (stop (t__law_is_leaf_1 K E))
end S
-- fn: _law_is_leaf
-- law: k41
-- sortC: yes
-- deps: _law_recipe _law_is_number Rcp2 Srt _law_is_atmost Ucol
namespace S
open PySem PySem.Spec PyProof.Rows L2
theorem srtT_leC {T : Tms} (so : SoT T) : T.Pairwise leC := by
  have h1 := List.pairwise_map.mp so.st
  have h2 := List.pairwise_map.mp so.nd
  refine (h1.and h2).imp fun {a b} h => ?_
  show ltC b a = false
  unfold ltC
  rw [if_neg (fun e => h.2 e.symm)]
  exact decide_eq_false (List.not_lt.mpr h.1)
theorem zip_fst {xs : List V} {T : Tms} (h : xs.length = T.length) : (xs.zip T).map (·.1) = xs := by
  rw [List.map_fst_zip]
  omega
theorem zip_snd {xs : List V} {T : Tms} (h : xs.length = T.length) : (xs.zip T).map (·.2) = T := by
  rw [List.map_snd_zip]
  omega
theorem cols_zip {K : Frag} {H : Hp} : ∀ {xs : List V} {T : Tms}, Cols K H xs T → ∀ b ∈ xs.zip T, ∃ t, b.1 = .ref t ∧ SqT K H t [.str b.2.1, .int b.2.2]
  | _, _, .nil => fun b h => by cases h
  | _, _, .cons h t => fun b hb => by
    rcases List.mem_cons.mp hb with rfl | hb
    · exact h
    · exact cols_zip t b hb
theorem cols_of {K : Frag} {H : Hp} : ∀ {bs : List (V × (Str × Int))}, (∀ b ∈ bs, ∃ t, b.1 = .ref t ∧ SqT K H t [.str b.2.1, .int b.2.2]) → Cols K H (bs.map (·.1)) (bs.map (·.2))
  | [], _ => .nil
  | b :: bs, h => .cons (h b List.mem_cons_self) (cols_of fun c hc => h c (List.mem_cons_of_mem _ hc))
def sp__law_is_leaf (K : Frag) : Sp := fun vs H Q _ => ∃ (B : Hp) (a y : Addr) (s : Stp) (L : List Str), vs = [.ref a, .ref y] ∧ QA K H a (lfQ s) ∧ StA K B H y s ∧ s.leaf L ∧ (∀ z ∈ L, PyData.strOk z = true) ∧ L.length ≤ 60 ∧ ∀ H', Same H H' → Q (.bl true) H'
theorem pure__law_is_leaf {K : Frag} (vs : List V) (H : Hp) (Q : VK) (E : XK) (h : sp__law_is_leaf K vs H Q E) : t__law_is_leaf K E { nx := fun _ H' => Q .non H', rt := Q } (start ["_law_question_here", "_law_leaf_here"] vs) H := by
  obtain ⟨B, a, y, s, L, rfl, hq, hA, lf, okL, lL, k⟩ := h
  cases s with
  | prs z =>
    have hA : SqT K H y [.str "present", .str z] := hA
    obtain ⟨d, ic, dx, p, hx⟩ := id hq
    walk_at "gx"
    refine fun mf => ?_
    refine isi_df d hx mf ?_
    refine Atr.df d hx rfl ?_
    walk_at "gx"
    show Q (.bl (decide (z = z))) H
    rw [decide_eq_true rfl]
    exact k H (Same.refl _)
  | bit z p0 =>
    have hA : SqT K H y [.str "bit", .str z, .int p0] := hA
    obtain ⟨d, ic, dx, p, hx⟩ := id hq
    walk_at "gx"
    refine fun mf => ?_
    refine isi_df d hx mf ?_
    refine Atr.df d hx rfl ?_
    walk_at "gx"
    refine ⟨p0, rfl, ?_⟩
    try dsimp only [bIf, isB, Bool.not_true]
    walk_at "gx"
    refine Atr.df d hx rfl ?_
    walk_at "gx"
    refine ifb (b := decide (z = z)) (fun _ => ?_) (fun h => absurd rfl (of_decide_eq_false h))
    refine Atr.df d hx rfl ?_
    walk_at "gx"
    show Q (.bl (decide (p0 = p0))) H
    rw [decide_eq_true rfl]
    exact k H (Same.refl _)
  | atm T b =>
    obtain ⟨l, ys, hA, hl0, hl, hC⟩ := hA
    obtain ⟨d, ⟨so, lT, sm⟩, ic, dx, p, u, us, hx, hu, hCu⟩ := id hq
    walk_at "gx"
    refine fun mf => ?_
    refine isi_df d hx mf ?_
    refine Atr.df d hx rfl ?_
    walk_at "gx"
    refine ⟨b, rfl, ?_⟩
    try dsimp only [bIf, isB, Bool.not_true]
    walk_at "gx"
    refine Atr.df d hx rfl ?_
    walk_at "gx"
    refine isi_tup hu.t ?_
    try dsimp only [bIf, isB, Bool.not_true]
    walk_at "gx"
    refine Atr.df d hx rfl ?_
    walk_at "gx"
    refine ifnf (by rfl) ?_
    walk_at "gx"
    refine Atr.df d hx rfl ?_
    walk_at "gx"
    refine ⟨us, .inr hu.t, ⟨fun p1 n1 => ?_⟩⟩
    have e1 := same_new (o := .lst us) n1
    have h1 : upd H p1 (.lst us) p1 = some (.lst us) := upd_same
    generalize upd H p1 (.lst us) = H1 at *
    have hA1 := Same.tup e1 hA
    have lys : ys.length = T.length := hC.length.symm
    have hT : T.length ≤ 60 := by
      have := nodup_len (nmT T) L lf.1 lf.2.1
      unfold nmT at this
      rw [List.length_map] at this
      omega
    walk_at "gx"
    refine ⟨false, ys.zip T, ?_, by rw [List.length_zip]; omega, fun b hb => ?_, fun cs q hp hs nq => ?_⟩
    · rw [zip_fst lys]
      exact SqL.of (e1 _ _ hl)
    · obtain ⟨t, h1, h2⟩ := cols_zip hC b hb
      exact ⟨t, h1, Same.tup e1 h2⟩
    have e2 := same_new (o := .lst (cs.map (·.1))) nq
    have hq2 : upd H1 q (.lst (cs.map (·.1))) q = some (.lst (cs.map (·.1))) := upd_same
    generalize upd H1 q (.lst (cs.map (·.1))) = H2 at *
    have e12 := e1.trans e2
    have hCc : Cols K H2 (cs.map (·.1)) (cs.map (·.2)) := cols_of fun b hb => by
      obtain ⟨t, h1, h2⟩ := cols_zip hC b (hp.mem_iff.mp hb)
      exact ⟨t, h1, Same.tup e12 h2⟩
    have eT : cs.map (·.2) = srtT T := by
      refine permC ?_ (List.pairwise_map.mpr hs) (srtT_leC so)
      have h3 : (cs.map (·.2)).Perm T := by
        have := hp.map (·.2)
        rw [zip_snd lys] at this
        exact this
      exact h3.trans (perm_lkS (srtT_ok lf.1).1.nd lf.1 (srtT_ok lf.1).2).symm
    rw [eT] at hCc
    have okT : ∀ t ∈ srtT T, PyData.strOk t.1 = true := fun t ht => by
      have : t.1 ∈ nmT (srtT T) := List.mem_map.mpr ⟨t, ht, rfl⟩
      exact okL _ (has_leaf (s := .atm T b) lf t.1 this)
    refine eqd_cols (SqL.of (e2 _ _ h1)) (SqL.of hq2) (hCu.same e12) hCc okT okT ?_
    rw [decide_eq_true rfl]
    exact k H2 e12
  | _ => exact lf.elim
end S
namespace S
open PySem PySem.Spec PyProof.Rows L2
end S
-- fn: is_name
-- law: k36
-- txt: text
-- inS: yes
-- deps: Nm D0 D1
namespace S
open PySem PySem.Spec PyProof.Rows L2
end S
namespace S
open PySem PySem.Spec PyProof.Rows L2
end S
-- fn: Schema.__init__
-- law: k36
-- deps: is_name Cols Fstay D0 D1
namespace S
open PySem PySem.Spec PyProof.Rows L2
theorem cols_at {K : Frag} {H : Hp} : ∀ {ys : List V} {cs : List Col} {i : Nat} {y : V}, Cols K H ys cs → ys[i]? = some y → ∃ c, cs[i]? = some c ∧ ColT K H c y
  | _, _, i, _, .nil, h => by simp at h
  | _, _, 0, _, .cons h _, e => by
    rw [List.getElem?_cons_zero] at e
    cases e
    exact ⟨_, rfl, h⟩
  | _, _, i + 1, _, .cons _ t, e => by
    rw [List.getElem?_cons_succ] at e
    obtain ⟨x, hx, hp⟩ := cols_at t e
    exact ⟨x, by rw [List.getElem?_cons_succ]; exact hx, hp⟩
end S
namespace S
open PySem PySem.Spec PyProof.Rows L2
end S
-- fn: Schema.all_slices
-- law: k43
-- tupK: yes
-- deps: Schema_init D0 D1
namespace S
open PySem PySem.Spec PyProof.Rows L2
/-- the slices of a column: the presence (-1), then its places -/
def slicesC (c : Col) (k : Nat) : List Col := (List.range k).map fun j : Nat => (c.1, -1 + (j : Int))
def slicesOf (cs : List Col) : List Col := cs.flatMap fun c => slicesC c (c.2 + 1).toNat
end S
-- deps: Schema_all_slices_t Bm D0 D1
/-! ## slices held in a dict -/
namespace S
open PySem PySem.Spec PyProof.Rows L2
def keyC (c : Col) : List Key := [.inr c.1, .inl c.2]
/-- the dict at d holds a bitmap of n rows with the ends he for each slice, in their order -/
def Held (K : Frag) (H : Hp) (d : Addr) (n : Int) (cs : List Col) (he : Col → List Int) : Prop := ∃ kvs : List (List Key × V), H d = some (.dT kvs) ∧ kvs.map (fun t => t.1) = (slicesOf cs).map keyC ∧ ∀ c ∈ slicesOf cs, ∃ b, valV kvs (keyC c) = some (.ref b) ∧ Bm K H b n (he c)
theorem Held.same {K : Frag} {H H' : Hp} {d : Addr} {n : Int} {cs : List Col} {he : Col → List Int} (h : Held K H d n cs he) (e : Same H H') : Held K H' d n cs he := by
  obtain ⟨kvs, h1, h2, h3⟩ := h
  exact ⟨kvs, e _ _ h1, h2, fun c hc => let ⟨b, g1, g2⟩ := h3 c hc; ⟨b, g1, g2.same e⟩⟩
theorem Held.x {K : Frag} {H H' : Hp} {d st : Addr} {n : Int} {cs : List Col} {he : Col → List Int} {l : List V} (h : Held K H d n cs he) (e : SameX st H H') (hst : H st = some (.lst l)) : Held K H' d n cs he := by
  obtain ⟨kvs, h1, h2, h3⟩ := h
  exact ⟨kvs, e _ _ h1 (fun z => by subst z; rw [hst] at h1; cases h1), h2, fun c hc => let ⟨b, g1, g2⟩ := h3 c hc; ⟨b, g1, g2.x e hst⟩⟩
theorem SameX.sltD {H H' : Hp} {q a C2 dx : Addr} {vs : List (Option V)} {kv : List (List Key × V)} (e : SameX q H H') (hq : H q = some (.dT kv)) (h : SlX.Slt H a C2 dx vs) (n : vs ≠ []) : SlX.Slt H' a C2 dx vs := by
  rcases h with ⟨h, z⟩ | ⟨h, z⟩
  · exact absurd z n
  · exact .inr ⟨e _ _ h (ne_of h hq fun y => by unfold SlX.SlO at y; cases y), e _ _ z (ne_of z hq fun y => by cases y)⟩
theorem Bm.xd {K : Frag} {H H' : Hp} {q a : Addr} {n : Int} {es : List Int} {kv : List (List Key × V)} (h : Bm K H a n es) (e : SameX q H H') (hq : H q = some (.dT kv)) : Bm K H' a n es := by
  obtain ⟨c, n0, hE, dx, p, hs, hp⟩ := h
  refine ⟨c, n0, hE, dx, p, e.sltD hq hs (by simp), ?_⟩
  rcases hp with (h | ⟨o, h⟩) | h
  · exact .inl (.inl (e _ _ h (ne_of h hq fun z => by cases z)))
  · exact .inl (.inr ⟨o, e _ _ h (ne_of h hq fun z => by cases z)⟩)
  · exact .inr h
end S
-- deps: Bs D0 D1
/-! ## what stays when an instance with a dict is changed -/
namespace S
open PySem PySem.Spec PyProof.Rows L2
variable {K : Frag} {H H' : Hp} {x C dy : Addr} {as : List (Str × V)}
theorem paired_at2 {α β : Type} {P : α → β → Prop} : ∀ {xs : List α} {ys : List β} {i : Nat} {y : β}, Paired P xs ys → ys[i]? = some y → ∃ x, xs[i]? = some x ∧ P x y
  | _, _, i, _, .nil, h => by simp at h
  | _, _, 0, _, .cons h _, e => by
    rw [List.getElem?_cons_zero] at e
    cases e
    exact ⟨_, rfl, h⟩
  | _, _, i + 1, _, .cons _ t, e => by
    rw [List.getElem?_cons_succ] at e
    obtain ⟨x, hx, hp⟩ := paired_at2 t e
    exact ⟨x, by rw [List.getElem?_cons_succ]; exact hx, hp⟩
end S
-- deps: Held Ins
/-! ## all stays but some lists and instances -/
namespace S
open PySem PySem.Spec PyProof.Rows L2
/-- what stood stands (whatever it is) -/
def Dm (U W : Hp) : Prop := ∀ b, W b = none → U b = none
theorem Dm.refl (U : Hp) : Dm U U := fun _ h => h
theorem Dm.trans {U V W : Hp} (a : Dm U V) (b : Dm V W) : Dm U W := fun c h => a c (b c h)
theorem Same.dm {H H' : Hp} (e : Same H H') : Dm H H' := fun b h => by
  cases g : H b with
  | none => rfl
  | some o => rw [e _ _ g] at h; cases h
theorem SameX.dm {q : Addr} {H H' : Hp} {o : HO} (e : SameX q H H') (h' : H' q = some o) : Dm H H' := fun b h => by
  cases g : H b with
  | none => rfl
  | some o =>
    by_cases n : b = q
    · subst n; rw [h'] at h; cases h
    · rw [e _ _ g n] at h; cases h
theorem Dm.upd {U W : Hp} {q : Addr} {o : HO} (d : Dm U W) : Dm U (upd W q o) := fun b h => by
  by_cases n : b = q
  · subst n; rw [upd_same] at h; cases h
  · rw [upd_ne n] at h; exact d b h
/-- all but M stays -/
def FrM (M : List Addr) (U W : Hp) : Prop := ∀ b o, U b = some o → b ∉ M → W b = some o
/-- M: lists and instances with four fields -/
def GM (M : List Addr) (U : Hp) : Prop := ∀ b ∈ M, (∃ xs, U b = some (.lst xs)) ∨ ∃ C dy as, U b = some (.ins C dy as) ∧ as.length = 4
section
variable {K : Frag} {M : List Addr} {U U2 W : Hp}
theorem FrM.refl : FrM M U U := fun _ _ h _ => h
theorem FrM.trans (a : FrM M U U2) (b : FrM M U2 W) : FrM M U W := fun c o h n => b c o (a c o h n) n
theorem FrM.same (a : FrM M U U2) (e : Same U2 W) : FrM M U W := fun c o h n => e c o (a c o h n)
theorem Same.fr (e : Same U W) : FrM M U W := fun c o h _ => e c o h
theorem SameX.fr {q : Addr} (e : SameX q U W) (h : q ∈ M) : FrM M U W := fun c o hc n => e c o hc fun z => n (z ▸ h)
theorem FrM.x {q : Addr} (a : FrM M U U2) (e : SameX q U2 W) (h : q ∈ M ∨ U q = none) : FrM M U W := fun c o hc n => e c o (a c o hc n) fun z => by
  subst z
  rcases h with h | h
  · exact n h
  · rw [h] at hc; cases hc
theorem FrM.mono {N : List Addr} (a : FrM M U W) (h : ∀ b ∈ M, b ∈ N ∨ U b = none) : FrM N U W := fun c o hc n => a c o hc fun hm => by
  rcases h c hm with h | h
  · exact n h
  · rw [h] at hc; cases hc
theorem GM.ne {b : Addr} {o : HO} (g : GM M U) (h : U b = some o) (n1 : ∀ xs, o ≠ .lst xs) (n2 : ∀ C dy as, o = .ins C dy as → as.length ≠ 4) : b ∉ M := fun hm => by
  rcases g b hm with ⟨xs, e⟩ | ⟨C, dy, as, e, l⟩
  · rw [h] at e; exact n1 xs (Option.some.inj e)
  · rw [h] at e; exact n2 C dy as (Option.some.inj e) l
theorem FrM.tup {a : Addr} {xs : List V} (f : FrM M U W) (g : GM M U) (h : SqT K U a xs) : SqT K W a xs := by
  rcases h with (h | ⟨o, h⟩) | h
  · exact .inl (.inl (f _ _ h (g.ne h (fun _ z => by cases z) fun _ _ _ z => by cases z)))
  · exact .inl (.inr ⟨o, f _ _ h (g.ne h (fun _ z => by cases z) fun _ _ _ z => by cases z)⟩)
  · exact .inr h
theorem FrM.slt {a C dx : Addr} {vs : List (Option V)} (f : FrM M U W) (g : GM M U) (h : SlX.Slt U a C dx vs) (n : vs ≠ []) : SlX.Slt W a C dx vs := by
  rcases h with ⟨h, z⟩ | ⟨h, z⟩
  · exact absurd z n
  · exact .inr ⟨f _ _ h (g.ne h (fun _ y => by unfold SlX.SlO at y; cases y) fun _ _ _ y => by unfold SlX.SlO at y; cases y), f _ _ z (g.ne z (fun _ y => by cases y) fun _ _ _ y => by cases y)⟩
theorem Bm.fr {a : Addr} {n : Int} {es : List Int} (h : Bm K U a n es) (f : FrM M U W) (g : GM M U) : Bm K W a n es := by
  obtain ⟨c, n0, hE, dx, p, hs, hp⟩ := h
  exact ⟨c, n0, hE, dx, p, f.slt g hs (by intro z; cases z), f.tup g hp⟩
theorem Cols.fr {ys : List V} {cs : List Col} (h : Cols K U ys cs) (f : FrM M U W) (g : GM M U) : Cols K W ys cs := Paired.mapP h fun _ _ ⟨a, h1, h2⟩ => ⟨a, h1, f.tup g h2⟩
theorem Held.fr {d : Addr} {n : Int} {cs : List Col} {he : Col → List Int} (h : Held K U d n cs he) (f : FrM M U W) (g : GM M U) : Held K W d n cs he := by
  obtain ⟨kvs, h1, h2, h3⟩ := h
  exact ⟨kvs, f _ _ h1 (g.ne h1 (fun _ z => by cases z) fun _ _ _ z => by cases z), h2, fun c hc => let ⟨b, g1, g2⟩ := h3 c hc; ⟨b, g1, g2.fr f g⟩⟩
end
end S
namespace S
open PySem PySem.Spec PyProof.Rows L2
def t_all_of_b1 (K : Frag) (E : XK) : TS :=
    tAsg (tOp (oDynB K csT "__and__" (fun _ => sp_Questiondd_anddd K) E oAnd) (dVar 1) (dVar 2)) (gName 1)
def t_all_of_3 (K : Frag) (E : XK) : TS :=
    tRet (dVar 1)
def t_all_of_2 (K : Frag) (E : XK) : TS :=
    tSeq (dFor (iSeq K (tSl (oSl K) (dVar 0) (dPart (tC (.int 1))) (tNoPart))) (gName 2) (t_all_of_b1 K E))
    (stop (t_all_of_3 K E))
def t_all_of_1 (K : Frag) (E : XK) : TS :=
    tSeq (tAsg (tOp (oIx K) (dVar 0) (tC (.int 0))) (gName 1))
    (stop (t_all_of_2 K E))
def t_all_of (K : Frag) (E : XK) : TS :=
    tSeq (dIfS (dCmpT (oEq K) (tCB (cLen K) (tCons (dVar 0) (tNil))) (tC (.int 0))) (tRet (dGiv (DF K "AtMost" ["Question"] ["parts", "terms", "bound"]) (dMake K "AtMost" (sp_AtMostdd_initdd K) (EW E) (tCons (dGiv (CF K "Form" ["offset", "terms"]) (dMake K "Form" (spD (sp_Formdd_initdd K) [V.int 0]) (EW E) (tCons (dNewK) (tNil)))) (tCons (tC (.int 0)) (tNil)))))) (tNext))
    (stop (t_all_of_1 K E))
end S
-- fn: all_of
-- law: k62
-- dynS: __and__
-- deps: _law_question Fstay Fr Ins CsT
namespace S
open PySem PySem.Spec PyProof.Rows L2
/-- parts joined by and, from the left -/
def allQ : List Qs → Qs
  | [] => .atm [] 0
  | q :: qs => qs.foldl .both q
def sp_all_of (K : Frag) : Sp := fun vs H Q _ => ∃ (as : List Addr) (qs : List Qs), vs = as.map V.ref ∧ inC "AtMost" ∧ inC "Both" ∧ as.length ≤ 60 ∧ Paired (fun q a => QA K H a q) qs as ∧
  ∀ y H', Same H H' → (qs = [] → H y = none) → (∀ a, as = [a] → y = a) → QA K H' y (allQ qs) → Q (.ref y) H'
theorem pure_all_of_len {K : Frag} : ∀ vs H Q E, sp_all_of K vs H Q E → vs.length ≤ 1000 := fun vs H Q E h => by
  obtain ⟨as, qs, rfl, _, _, l, _⟩ := h
  rw [List.length_map]; omega
theorem cut_oneA {x : V} {xs : List V} : cutV (x :: xs) (some 1) none = xs := by
  unfold cutV
  have e : HT.sIx (x :: xs).length 0 (some 1) = 1 := by
    have := HT.sIx_nat (x :: xs).length 0 1
    rw [List.length_cons] at this ⊢
    rw [show (some (1 : Int)) = some ((1 : Nat) : Int) from rfl, this]; omega
  rw [e, HT.sIx_none]
  simp
theorem pure_all_of {K : Frag} (vs : List V) (H : Hp) (Q : VK) (E : XK) (h : sp_all_of K vs H Q E) : ∀ p, H p = none → t_all_of K E { nx := fun _ H' => Q .non H', rt := Q } (start ["parts", "result", "part"] [.ref p]) (upd H p (.tup vs)) := by
  intro p np
  obtain ⟨as, qs, rfl, iA, iB, las, hP, k⟩ := h
  have e1 := same_new (o := .tup (as.map V.ref)) np
  have hp : SqT K (upd H p (.tup (as.map V.ref))) p (as.map V.ref) := SqT.of upd_same
  have hP1 : Paired (fun q a => QA K (upd H p (.tup (as.map V.ref))) a q) qs as := Paired.mapP hP fun _ _ h => h.same e1
  have npA : ∀ a ∈ as, a ≠ p ∨ True := fun _ _ => .inr trivial
  generalize upd H p (.tup (as.map V.ref)) = H1 at *
  cases hP1 with
  | nil =>
    walk_at "gx"
    refine fun df => ?_
    refine fun cf => ?_
    dsimp only [dMake, tCons, tNil, dNewK]
    refine ⟨fun d nd => ?_⟩
    have e2 := same_new (o := .dK []) nd
    have hd2 : upd H1 d (.dK []) d = some (.dK []) := upd_same
    generalize upd H1 d (.dK []) = H2 at *
    refine mk_form (D := []) cf (.inl hd2) List.nodup_nil (by decide) fun T f H3 e3 _ sT hT fT => ?_
    have T0 : T = [] := by
      cases T with
      | nil => rfl
      | cons t T => exact absurd ((hT t.1).symm.trans (lkT_mem sT.nd List.mem_cons_self)) (fun h => by cases h)
    subst T0
    dsimp only [tC]
    refine mk_atm df iA fT (fun t ht => nomatch ht) fun x1 H4 e4 nx hx1 => ?_
    have e14 := e1.trans (e2.trans (e3.trans e4))
    refine k x1 H4 e14 (fun _ => ?_) (fun a h => by cases h) hx1
    exact Same.dm (e1.trans (e2.trans e3)) x1 nx
  | @cons q a qs as ha hP1 =>
    have la : (as.map V.ref).length < 2 ^ 62 := by rw [List.length_map]; rw [List.length_cons] at las; omega
    have at0 : L2.atI ((a :: as).map V.ref) 0 = some (.ref a) := L2.atI_nat (j := 0) rfl
    walk_at "gx"
    refine Cut.t hp fun c H2 e2 hc => ?_
    have hc : SqT K H2 c (as.map V.ref) := by rw [show ((a :: as).map V.ref) = V.ref a :: as.map V.ref from rfl, cut_oneA] at hc; exact hc
    refine for_stay (K := K) (xs := as.map V.ref) (fun i σ W => ∃ (y : Addr) (x2 : Option V), σ = [some (.ref p), some (.ref y), x2] ∧ Same H1 W ∧ (i = 0 → y = a) ∧ QA K W y ((qs.take i).foldl .both q)) (.inr hc) ⟨a, none, rfl, e2, (fun _ => rfl), ha.same e2⟩ ?_ ?_
    · rintro i v σ W hi ⟨y, x2, rfl, eW, hy0, hy⟩ eW2
      rw [List.getElem?_map] at hi
      obtain ⟨b, hb, rfl⟩ := Option.map_eq_some_iff.mp hi
      obtain ⟨q2, hq2, hqb⟩ := paired_at2 hP1 hb
      have hqb := hqb.same eW
      walk_at "gx"
      refine QA.dyn hy (by decide) (QA.insm hqb ?_)
      refine ⟨y, b, _, _, rfl, iB, hy, hqb, fun x1 W2 e3 nx hx1 => ?_⟩
      refine ⟨⟨x1, _, rfl, eW.trans e3, (fun h => by cases h), ?_⟩, eW2.trans e3⟩
      rw [List.take_add_one, hq2, Option.toList_some, List.foldl_append]
      exact hx1
    · rintro σ W ⟨y, x2, rfl, eW, hy0, hy⟩ eW2
      rw [List.length_map, ← hP1.length, List.take_length] at hy
      walk_at "gx"
      refine k y W (e1.trans eW) (fun h => by cases h) (fun a' h => ?_) hy
      injection h with h1 h2
      subst h1 h2
      exact hy0 rfl
end S
namespace S
open PySem PySem.Spec PyProof.Rows L2
def t_any_of_b1 (K : Frag) (E : XK) : TS :=
    tAsg (tOp (oDynB K csT "__or__" (fun _ => sp_Questiondd_ordd K) E oOr) (dVar 1) (dVar 2)) (gName 1)
def t_any_of_3 (K : Frag) (E : XK) : TS :=
    tRet (dVar 1)
def t_any_of_2 (K : Frag) (E : XK) : TS :=
    tSeq (dFor (iSeq K (tSl (oSl K) (dVar 0) (dPart (tC (.int 1))) (tNoPart))) (gName 2) (t_any_of_b1 K E))
    (stop (t_any_of_3 K E))
def t_any_of_1 (K : Frag) (E : XK) : TS :=
    tSeq (tAsg (tOp (oIx K) (dVar 0) (tC (.int 0))) (gName 1))
    (stop (t_any_of_2 K E))
def t_any_of (K : Frag) (E : XK) : TS :=
    tSeq (dIfS (dCmpT (oEq K) (tCB (cLen K) (tCons (dVar 0) (tNil))) (tC (.int 0))) (tRet (dGiv (DF K "AtMost" ["Question"] ["parts", "terms", "bound"]) (dMake K "AtMost" (sp_AtMostdd_initdd K) (EW E) (tCons (dGiv (CF K "Form" ["offset", "terms"]) (dMake K "Form" (spD (sp_Formdd_initdd K) [V.int 0]) (EW E) (tCons (dNewK) (tNil)))) (tCons (tUn uNeg (tC (.int 1))) (tNil)))))) (tNext))
    (stop (t_any_of_1 K E))
end S
-- fn: any_of
-- law: k41
-- dynS: __or__
-- deps: all_of
namespace S
open PySem PySem.Spec PyProof.Rows L2
/-- parts joined by or, from the left -/
def anyQ : List Qs → Qs
  | [] => .atm [] (-1)
  | q :: qs => qs.foldl .eith q
def sp_any_of (K : Frag) : Sp := fun vs H Q _ => ∃ (as : List Addr) (qs : List Qs), vs = as.map V.ref ∧ inC "AtMost" ∧ inC "Either" ∧ as.length ≤ 60 ∧ Paired (fun q a => QA K H a q) qs as ∧
  ∀ y H', Same H H' → (qs = [] → H y = none) → (∀ a, as = [a] → y = a) → QA K H' y (anyQ qs) → Q (.ref y) H'
theorem pure_any_of_len {K : Frag} : ∀ vs H Q E, sp_any_of K vs H Q E → vs.length ≤ 1000 := fun vs H Q E h => by
  obtain ⟨as, qs, rfl, _, _, l, _⟩ := h
  rw [List.length_map]; omega
theorem pure_any_of {K : Frag} (vs : List V) (H : Hp) (Q : VK) (E : XK) (h : sp_any_of K vs H Q E) : ∀ p, H p = none → t_any_of K E { nx := fun _ H' => Q .non H', rt := Q } (start ["parts", "result", "part"] [.ref p]) (upd H p (.tup vs)) := by
  intro p np
  obtain ⟨as, qs, rfl, iA, iB, las, hP, k⟩ := h
  have e1 := same_new (o := .tup (as.map V.ref)) np
  have hp : SqT K (upd H p (.tup (as.map V.ref))) p (as.map V.ref) := SqT.of upd_same
  have hP1 : Paired (fun q a => QA K (upd H p (.tup (as.map V.ref))) a q) qs as := Paired.mapP hP fun _ _ h => h.same e1
  have npA : ∀ a ∈ as, a ≠ p ∨ True := fun _ _ => .inr trivial
  generalize upd H p (.tup (as.map V.ref)) = H1 at *
  cases hP1 with
  | nil =>
    walk_at "gx"
    refine fun df => ?_
    refine fun cf => ?_
    dsimp only [dMake, tCons, tNil, dNewK]
    refine ⟨fun d nd => ?_⟩
    have e2 := same_new (o := .dK []) nd
    have hd2 : upd H1 d (.dK []) d = some (.dK []) := upd_same
    generalize upd H1 d (.dK []) = H2 at *
    refine mk_form (D := []) cf (.inl hd2) List.nodup_nil (by decide) fun T f H3 e3 _ sT hT fT => ?_
    have T0 : T = [] := by
      cases T with
      | nil => rfl
      | cons t T => exact absurd ((hT t.1).symm.trans (lkT_mem sT.nd List.mem_cons_self)) (fun h => by cases h)
    subst T0
    try dsimp only [tC]
    refine mk_atm df iA fT (fun t ht => nomatch ht) fun x1 H4 e4 nx hx1 => ?_
    have e14 := e1.trans (e2.trans (e3.trans e4))
    refine k x1 H4 e14 (fun _ => ?_) (fun a h => by cases h) hx1
    exact Same.dm (e1.trans (e2.trans e3)) x1 nx
  | @cons q a qs as ha hP1 =>
    have la : (as.map V.ref).length < 2 ^ 62 := by rw [List.length_map]; rw [List.length_cons] at las; omega
    have at0 : L2.atI ((a :: as).map V.ref) 0 = some (.ref a) := L2.atI_nat (j := 0) rfl
    walk_at "gx"
    refine Cut.t hp fun c H2 e2 hc => ?_
    have hc : SqT K H2 c (as.map V.ref) := by rw [show ((a :: as).map V.ref) = V.ref a :: as.map V.ref from rfl, cut_oneA] at hc; exact hc
    refine for_stay (K := K) (xs := as.map V.ref) (fun i σ W => ∃ (y : Addr) (x2 : Option V), σ = [some (.ref p), some (.ref y), x2] ∧ Same H1 W ∧ (i = 0 → y = a) ∧ QA K W y ((qs.take i).foldl .eith q)) (.inr hc) ⟨a, none, rfl, e2, (fun _ => rfl), ha.same e2⟩ ?_ ?_
    · rintro i v σ W hi ⟨y, x2, rfl, eW, hy0, hy⟩ eW2
      rw [List.getElem?_map] at hi
      obtain ⟨b, hb, rfl⟩ := Option.map_eq_some_iff.mp hi
      obtain ⟨q2, hq2, hqb⟩ := paired_at2 hP1 hb
      have hqb := hqb.same eW
      walk_at "gx"
      refine QA.dyn hy (by decide) (QA.insm hqb ?_)
      refine ⟨y, b, _, _, rfl, iB, hy, hqb, fun x1 W2 e3 nx hx1 => ?_⟩
      refine ⟨⟨x1, _, rfl, eW.trans e3, (fun h => by cases h), ?_⟩, eW2.trans e3⟩
      rw [List.take_add_one, hq2, Option.toList_some, List.foldl_append]
      exact hx1
    · rintro σ W ⟨y, x2, rfl, eW, hy0, hy⟩ eW2
      rw [List.length_map, ← hP1.length, List.take_length] at hy
      walk_at "gx"
      refine k y W (e1.trans eW) (fun h => by cases h) (fun a' h => ?_) hy
      injection h with h1 h2
      subst h1 h2
      exact hy0 rfl
end S
namespace S
open PySem PySem.Spec PyProof.Rows L2
def t__law_joined_5 (K : Frag) (E : XK) : TS :=
    tRet (dCall (sp_any_of K) (EW E) (tCons (tOp (oIx K) (dVar 0) (tC (.int 0))) (tCons (tOp (oIx K) (dVar 0) (tC (.int 1))) (tCons (tOp (oIx K) (dVar 0) (tC (.int 2))) (tCons (tOp (oIx K) (dVar 0) (tC (.int 3))) (tNil))))))
def t__law_joined_4 (K : Frag) (E : XK) : TS :=
    tSeq (dIfS (dCmpT (oEq K) (tCB (cLen K) (tCons (dVar 0) (tNil))) (tC (.int 3))) (tRet (dCall (sp_any_of K) (EW E) (tCons (tOp (oIx K) (dVar 0) (tC (.int 0))) (tCons (tOp (oIx K) (dVar 0) (tC (.int 1))) (tCons (tOp (oIx K) (dVar 0) (tC (.int 2))) (tNil)))))) (tNext))
    (stop (t__law_joined_5 K E))
def t__law_joined_3 (K : Frag) (E : XK) : TS :=
    tSeq (dIfS (dCmpT (oEq K) (tCB (cLen K) (tCons (dVar 0) (tNil))) (tC (.int 2))) (tRet (dCall (sp_any_of K) (EW E) (tCons (tOp (oIx K) (dVar 0) (tC (.int 0))) (tCons (tOp (oIx K) (dVar 0) (tC (.int 1))) (tNil))))) (tNext))
    (stop (t__law_joined_4 K E))
def t__law_joined_2 (K : Frag) (E : XK) : TS :=
    tSeq (dIfS (dCmpT (oEq K) (tCB (cLen K) (tCons (dVar 0) (tNil))) (tC (.int 1))) (tRet (dCall (sp_any_of K) (EW E) (tCons (tOp (oIx K) (dVar 0) (tC (.int 0))) (tNil)))) (tNext))
    (stop (t__law_joined_3 K E))
def t__law_joined_1 (K : Frag) (E : XK) : TS :=
    tSeq (dIfS (dCmpT (oEq K) (tCB (cLen K) (tCons (dVar 0) (tNil))) (tC (.int 0))) (tRet (dCall (sp_any_of K) (EW E) (tNil))) (tNext))
    (stop (t__law_joined_2 K E))
def t__law_joined (K : Frag) (E : XK) : TS :=
    tSeq (dIfS (dTest K (dVar 1)) (tSeq (dIfS (dCmpT (oEq K) (tCB (cLen K) (tCons (dVar 0) (tNil))) (tC (.int 0))) (tRet (dCall (sp_all_of K) (EW E) (tNil))) (tNext))
    (tSeq (dIfS (dCmpT (oEq K) (tCB (cLen K) (tCons (dVar 0) (tNil))) (tC (.int 1))) (tRet (dCall (sp_all_of K) (EW E) (tCons (tOp (oIx K) (dVar 0) (tC (.int 0))) (tNil)))) (tNext))
    (tSeq (dIfS (dCmpT (oEq K) (tCB (cLen K) (tCons (dVar 0) (tNil))) (tC (.int 2))) (tRet (dCall (sp_all_of K) (EW E) (tCons (tOp (oIx K) (dVar 0) (tC (.int 0))) (tCons (tOp (oIx K) (dVar 0) (tC (.int 1))) (tNil))))) (tNext))
    (tSeq (dIfS (dCmpT (oEq K) (tCB (cLen K) (tCons (dVar 0) (tNil))) (tC (.int 3))) (tRet (dCall (sp_all_of K) (EW E) (tCons (tOp (oIx K) (dVar 0) (tC (.int 0))) (tCons (tOp (oIx K) (dVar 0) (tC (.int 1))) (tCons (tOp (oIx K) (dVar 0) (tC (.int 2))) (tNil)))))) (tNext))
    (tRet (dCall (sp_all_of K) (EW E) (tCons (tOp (oIx K) (dVar 0) (tC (.int 0))) (tCons (tOp (oIx K) (dVar 0) (tC (.int 1))) (tCons (tOp (oIx K) (dVar 0) (tC (.int 2))) (tCons (tOp (oIx K) (dVar 0) (tC (.int 3))) (tNil))))))))))) (tNext))
    (stop (t__law_joined_1 K E))
end S
-- fn: _law_joined
-- law: k41
-- deps: all_of any_of
namespace S
open PySem PySem.Spec PyProof.Rows L2
/-- the parts joined -/
def joQ (ev : Bool) (qs : List Qs) : Qs := if ev then allQ qs else anyQ qs
def sp__law_joined (K : Frag) : Sp := fun vs H Q _ => ∃ (p : Addr) (as : List Addr) (qs : List Qs) (ev : Bool), vs = [.ref p, .bl ev] ∧ inC "AtMost" ∧ inC "Both" ∧ inC "Either" ∧ H p = some (.lst (as.map V.ref)) ∧ as.length ≤ 4 ∧ Paired (fun q a => QA K H a q) qs as ∧
  ∀ y H', Same H H' → QA K H' y (joQ ev qs) → Q (.ref y) H'
theorem pure__law_joined {K : Frag} (vs : List V) (H : Hp) (Q : VK) (E : XK) (h : sp__law_joined K vs H Q E) : t__law_joined K E { nx := fun _ H' => Q .non H', rt := Q } (start ["_law_parts", "_law_every"] vs) H := by
  obtain ⟨p, as, qs, ev, rfl, iA, iB, iE, hp, las, hP, k⟩ := h
  have kA : ev = true → sp_all_of K (as.map V.ref) H Q E := fun he => ⟨as, qs, rfl, iA, iB, by omega, hP, fun y H' e _ _ hy => k y H' e (by rw [he]; exact hy)⟩
  have kE : ev = false → sp_any_of K (as.map V.ref) H Q E := fun he => ⟨as, qs, rfl, iA, iE, by omega, hP, fun y H' e _ _ hy => k y H' e (by rw [he]; exact hy)⟩
  clear hP k
  match as, las with
  | [], _ =>
    have hp : H p = some (.lst []) := hp
    cases ev with
    | true => walk_at "gx"; exact kA rfl
    | false => walk_at "gx"; exact kE rfl
  | [a0], _ =>
    have hp : H p = some (.lst [.ref a0]) := hp
    cases ev with
    | true => walk_at "gx"; exact kA rfl
    | false => walk_at "gx"; exact kE rfl
  | [a0, a1], _ =>
    have hp : H p = some (.lst [.ref a0, .ref a1]) := hp
    cases ev with
    | true => walk_at "gx"; exact kA rfl
    | false => walk_at "gx"; exact kE rfl
  | [a0, a1, a2], _ =>
    have hp : H p = some (.lst [.ref a0, .ref a1, .ref a2]) := hp
    cases ev with
    | true => walk_at "gx"; exact kA rfl
    | false => walk_at "gx"; exact kE rfl
  | [a0, a1, a2, a3], _ =>
    have hp : H p = some (.lst [.ref a0, .ref a1, .ref a2, .ref a3]) := hp
    cases ev with
    | true => walk_at "gx"; exact kA rfl
    | false => walk_at "gx"; exact kE rfl
  | _ :: _ :: _ :: _ :: _ :: _, h => simp at h
end S
namespace S
open PySem PySem.Spec PyProof.Rows L2
def t__law_chain_b1_2 (K : Frag) (E : XK) : TS :=
    tAsg (dAt K "one" (dVar 3)) (gName 3)
def t__law_chain_b1_1 (K : Frag) (E : XK) : TS :=
    tSeq (dIfS (dNot (dTest K (dCall (sp__law_is_leaf K) (EW E) (tCons (dAt K "other" (dVar 3)) (tCons (tOp (oIx K) (dVar 1) (tOp oSub (tOp oSub (tCB (cLen K) (tCons (dVar 1) (tNil))) (tC (.int 1))) (dVar 4))) (tNil)))))) (tRet (tC (.bl false))) (tNext))
    (stop (t__law_chain_b1_2 K E))
def t__law_chain_b1 (K : Frag) (E : XK) : TS :=
    tSeq (dIfS (dOr (dAnd (dTest K (dVar 2)) (dNot (dTest K (dGiv (MF K "Both" ["Question"] ["object"]) (tCB (cIsi K) (tCons (dVar 3) (tCons (tC (.ref (He.ga K "Both"))) (tNil)))))))) (dAnd (dNot (dTest K (dVar 2))) (dNot (dTest K (dGiv (MF K "Either" ["Question"] ["object"]) (tCB (cIsi K) (tCons (dVar 3) (tCons (tC (.ref (He.ga K "Either"))) (tNil))))))))) (tRet (tC (.bl false))) (tNext))
    (stop (t__law_chain_b1_1 K E))
def t__law_chain_6 (K : Frag) (E : XK) : TS :=
    tRet (dAndV (dCall (sp__law_is_number K) (EW E) (tCons (dAt K "bound" (dVar 3)) (tNil))) (dAndV (tOp (oEq K) (dAt K "bound" (dVar 3)) (tUn uNeg (tC (.int 1)))) (tOp oIsT (dDyn K csT "truth" (sp_truth K nT) (EW E) (dVar 3) (tCons (dNewK) (tNil))) (tC (.bl false)))))
def t__law_chain_5 (K : Frag) (E : XK) : TS :=
    tSeq (dIfS (dTest K (dVar 2)) (tRet (dAndV (dCall (sp__law_is_number K) (EW E) (tCons (dAt K "bound" (dVar 3)) (tNil))) (dAndV (tOp (oEq K) (dAt K "bound" (dVar 3)) (tC (.int 0))) (tOp oIsT (dDyn K csT "truth" (sp_truth K nT) (EW E) (dVar 3) (tCons (dNewK) (tNil))) (tC (.bl true)))))) (tNext))
    (stop (t__law_chain_6 K E))
def t__law_chain_4 (K : Frag) (E : XK) : TS :=
    tSeq (dIfS (dOr (dNot (dTest K (dGiv (MF K "AtMost" ["Question"] ["object"]) (tCB (cIsi K) (tCons (dVar 3) (tCons (tC (.ref (He.ga K "AtMost"))) (tNil))))))) (dOr (dNot (dTest K (tCB (cIsi K) (tCons (dAt K "terms" (dVar 3)) (tCons (tC (.ty "tuple")) (tNil)))))) (dCmpT (oNe K) (tCB (cLen K) (tCons (dAt K "terms" (dVar 3)) (tNil))) (tC (.int 0))))) (tRet (tC (.bl false))) (tNext))
    (stop (t__law_chain_5 K E))
def t__law_chain_3 (K : Frag) (E : XK) : TS :=
    tSeq (dIfS (dCmpT oGt (tCB (cLen K) (tCons (dVar 1) (tNil))) (tC (.int 0))) (tRet (dCall (sp__law_is_leaf K) (EW E) (tCons (dVar 3) (tCons (tOp (oIx K) (dVar 1) (tC (.int 0))) (tNil))))) (tNext))
    (stop (t__law_chain_4 K E))
def t__law_chain_2 (K : Frag) (E : XK) : TS :=
    tSeq (dFor (iRng (tCons (tOp oSub (tCB (cLen K) (tCons (dVar 1) (tNil))) (tC (.int 1))) (tNil))) (gName 4) (t__law_chain_b1 K E))
    (stop (t__law_chain_3 K E))
def t__law_chain_1 (K : Frag) (E : XK) : TS :=
    tSeq (tAsg (dVar 0) (gName 3))
    (stop (t__law_chain_2 K E))
def t__law_chain (K : Frag) (E : XK) : TS :=
    tSeq (dIfS (dOr (dNot (dTest K (dGiv (MF K "Question" [] ["object"]) (tCB (cIsi K) (tCons (dVar 0) (tCons (tC (.ref (He.ga K "Question"))) (tNil))))))) (dCmpT (oNe K) (dDyn0 K csT "names" (sp_names K nT) (EW E) (dVar 0)) (dCall (sp__law_named K) (EW E) (tCons (dVar 1) (tNil))))) (tRet (tC (.bl false))) (tNext))
    (stop (t__law_chain_1 K E))
end S
-- fn: _law_chain
-- law: k41
-- dyn: names truth
-- csT: AtMost Present HasBit Both Either Opposite Surely
-- nT: 12
-- deps: Eqs Nq _law_named _law_is_leaf _law_joined_k41 CsT
namespace S
open PySem PySem.Spec PyProof.Rows L2
theorem isi_qC {K : Frag} {H : Hp} {a : Addr} {q : Qs} {k : Bool → Prop} (h : QA K H a q) (mf : MF K "Question" [] ["object"]) (g : k true) : Isi K H (.ref a) (.ref (He.ga K "Question")) k := by
  cases q with
  | atm T b => obtain ⟨d, _, c, dx, p, u, ys, h1, _⟩ := h; exact Isi.df d h1 mf g
  | prs z => obtain ⟨d, c, dx, p, h1⟩ := h; exact Isi.df d h1 mf g
  | bit z i => obtain ⟨d, c, dx, p, h1⟩ := h; exact Isi.df d h1 mf g
  | both q r => obtain ⟨d, c, dx, p, b, b2, h1, _⟩ := h; exact Isi.df d h1 mf g
  | eith q r => obtain ⟨d, c, dx, p, b, b2, h1, _⟩ := h; exact Isi.df d h1 mf g
  | opp q => obtain ⟨d, c, dx, p, b, h1, _⟩ := h; exact Isi.df d h1 mf g
  | sure q => obtain ⟨d, c, dx, p, b, h1, _⟩ := h; exact Isi.df d h1 mf g
/-- a pair of parts -/
def pair (ev : Bool) (q r : Qs) : Qs := if ev then .both q r else .eith q r
theorem joQ_snoc {ev : Bool} {q : Qs} {qs : List Qs} {r : Qs} : joQ ev (q :: qs ++ [r]) = pair ev (joQ ev (q :: qs)) r := by
  cases ev
  · show (qs ++ [r]).foldl Qs.eith q = _
    rw [List.foldl_append]; rfl
  · show (qs ++ [r]).foldl Qs.both q = _
    rw [List.foldl_append]; rfl
theorem joQ_has {ev : Bool} {z : Str} {qs : List Qs} : (joQ ev qs).has z ↔ ∃ q ∈ qs, q.has z := by
  have gen : ∀ (qs : List Qs) (q : Qs), ((qs.foldl Qs.both q).has z ↔ q.has z ∨ ∃ r ∈ qs, r.has z) ∧ ((qs.foldl Qs.eith q).has z ↔ q.has z ∨ ∃ r ∈ qs, r.has z) := by
    intro qs
    induction qs with
    | nil => intro q; simp
    | cons r qs ih =>
      intro q
      obtain ⟨h1, h2⟩ := ih (Qs.both q r)
      obtain ⟨_, h4⟩ := ih (Qs.eith q r)
      refine ⟨?_, ?_⟩
      · show (qs.foldl Qs.both (Qs.both q r)).has z ↔ _
        rw [h1]; simp [Qs.has, or_assoc]
      · show (qs.foldl Qs.eith (Qs.eith q r)).has z ↔ _
        rw [h4]; simp [Qs.has, or_assoc]
  cases qs with
  | nil =>
    cases ev
    · show z ∈ nmT [] ↔ _; simp [nmT]
    · show z ∈ nmT [] ↔ _; simp [nmT]
  | cons q qs =>
    cases ev
    · show (qs.foldl Qs.eith q).has z ↔ _
      rw [(gen qs q).2]; simp
    · show (qs.foldl Qs.both q).has z ↔ _
      rw [(gen qs q).1]; simp
theorem joQ_dep {ev : Bool} {qs : List Qs} (h : ∀ q ∈ qs, q.dep = 1) : (joQ ev qs).dep ≤ qs.length + 1 := by
  have gen : ∀ (qs : List Qs) (q : Qs), (∀ r ∈ qs, r.dep = 1) → (qs.foldl Qs.both q).dep ≤ max q.dep 1 + qs.length ∧ (qs.foldl Qs.eith q).dep ≤ max q.dep 1 + qs.length := by
    intro qs
    induction qs with
    | nil => intro q _; exact ⟨by simp; omega, by simp; omega⟩
    | cons r qs ih =>
      intro q h
      have hr := h r List.mem_cons_self
      have i1 := (ih (Qs.both q r) fun s hs => h s (List.mem_cons_of_mem _ hs)).1
      have i2 := (ih (Qs.eith q r) fun s hs => h s (List.mem_cons_of_mem _ hs)).2
      simp only [Qs.dep, hr] at i1 i2
      rw [List.length_cons]
      exact ⟨by show (qs.foldl Qs.both (Qs.both q r)).dep ≤ _; omega, by show (qs.foldl Qs.eith (Qs.eith q r)).dep ≤ _; omega⟩
  cases qs with
  | nil => cases ev <;> exact Nat.le_refl _
  | cons q qs =>
    have hq := h q List.mem_cons_self
    have g := gen qs q fun r hr => h r (List.mem_cons_of_mem _ hr)
    rw [hq] at g
    rw [List.length_cons]
    cases ev
    · have := g.2; show (qs.foldl Qs.eith q).dep ≤ _; omega
    · have := g.1; show (qs.foldl Qs.both q).dep ≤ _; omega
theorem prC_at {α β : Type} {P : α → β → Prop} : ∀ {xs : List α} {ys : List β} {i : Nat} {x : α}, Paired P xs ys → xs[i]? = some x → ∃ y, ys[i]? = some y ∧ P x y
  | _, _, i, _, .nil, h => by simp at h
  | _, _, 0, _, .cons h _, e => by
    rw [List.getElem?_cons_zero] at e
    cases e
    exact ⟨_, rfl, h⟩
  | _, _, i + 1, _, .cons _ t, e => by
    rw [List.getElem?_cons_succ] at e
    obtain ⟨y, hy, hp⟩ := prC_at t e
    exact ⟨y, by rw [List.getElem?_cons_succ]; exact hy, hp⟩
def sp__law_chain (K : Frag) : Sp := fun vs H Q _ => ∃ (B : Hp) (a lv : Addr) (ls : List Addr) (ss : List Stp) (L : List Str) (ev : Bool), vs = [.ref a, .ref lv, .bl ev] ∧ 12 ≤ nT ∧ H lv = some (.lst (ls.map V.ref)) ∧ Paired (fun s x => StA K B H x s) ss ls ∧ QA K H a (joQ ev (ss.map lfQ)) ∧ ss.length ≤ 4 ∧ (∀ s ∈ ss, s.leaf L) ∧ (∀ z ∈ L, PyData.strOk z = true) ∧ L.length ≤ 60 ∧ ∀ H', Same H H' → Q (.bl true) H'
theorem pure__law_chain {K : Frag} (vs : List V) (H : Hp) (Q : VK) (E : XK) (h : sp__law_chain K vs H Q E) : t__law_chain K E { nx := fun _ H' => Q .non H', rt := Q } (start ["_law_question_here", "_law_leaves", "_law_every", "_law_node", "_law_k"] vs) H := by
  obtain ⟨B, a, lv, ls, ss, L, ev, rfl, n12, hlv, hS, hq, l4, lf, okL, lL, k⟩ := h
  have lls : ss.length = ls.length := hS.length
  have hs : ∀ z, (joQ ev (ss.map lfQ)).has z ↔ ∃ s ∈ ss, s.nm z := fun z => by
    rw [joQ_has]
    constructor
    · rintro ⟨q, hq, h⟩
      obtain ⟨s, h1, rfl⟩ := List.mem_map.mp hq
      exact ⟨s, h1, (nm_leaf (lf s h1) z).mp h⟩
    · rintro ⟨s, h1, h⟩
      exact ⟨lfQ s, List.mem_map.mpr ⟨s, h1, rfl⟩, (nm_leaf (lf s h1) z).mpr h⟩
  have sub : ∀ s ∈ ss, ∀ z, s.nm z → z ∈ L := fun s h1 z h => has_leaf (lf s h1) z ((nm_leaf (lf s h1) z).mpr h)
  have dep : (joQ ev (ss.map lfQ)).dep ≤ nT := by
    have := joQ_dep (ev := ev) (qs := ss.map lfQ) fun q hq => by obtain ⟨s, _, rfl⟩ := List.mem_map.mp hq; exact lfQ_dep s
    rw [List.length_map] at this
    omega
  walk_at "gx"
  refine fun mf => ?_
  refine isi_qC hq mf ?_
  try dsimp only [bIf, isB, Bool.not_true]
  walk_at "gx"
  refine hq.dyn (by decide) ⟨a, _, L, rfl, rfl, dep, hq, by omega, fun z hz => ?_, fun M1 l1 W1 f1 n1 h1 nd1 pw1 hm1 => ?_⟩
  · obtain ⟨s, h1, h⟩ := (hs z).mp hz
    exact sub s h1 z h
  walk_at "gx"
  refine ⟨B, lv, ls, ss, L, rfl, f1 _ _ hlv, Paired.mapP hS fun _ _ h => h.same f1, by omega, sub, lL, fun M2 l2 W2 f2 n2 h2 nd2 pw2 hm2 => ?_⟩
  have eM : M1 = M2 := permS ((List.perm_ext_iff_of_nodup nd1 nd2).mpr fun z => by rw [hm1, hs, hm2]) pw1 pw2
  subst eM
  have f12 := f1.trans f2
  refine eqd_strs (L := M1) (fun z hz => ?_) (f2 _ _ h1) h2 ?_
  · obtain ⟨s, h3, h⟩ := (hm2 z).mp hz
    exact okL z (sub s h3 z h)
  try dsimp only [bIf, isB, Bool.not_true]
  walk_at "gx"
  have l62 : (ls.map V.ref).length < 2 ^ 62 := by rw [List.length_map]; omega
  have hlv2 := f12 _ _ hlv
  walk_at "gx"
  refine for_rng (fun i σ W => ∃ (b : Addr) (x4 : Option V), σ = [some (.ref a), some (.ref lv), some (.bl ev), some (.ref b), x4] ∧ Same H W ∧ QA K W b (joQ ev ((ss.take (ss.length - i)).map lfQ))) ⟨a, none, rfl, f12, by rw [Nat.sub_zero, List.take_length]; exact hq.same f12⟩ ?_ ?_
  · rintro i σ W hi ⟨b, x4, rfl, eW, hb⟩
    have hi : (i : Int) < ((ls.map V.ref).length : Int) - 1 := hi
    rw [List.length_map] at hi
    obtain ⟨m, hm⟩ : ∃ m, ss.length - i = m + 2 := ⟨ss.length - i - 2, by omega⟩
    obtain ⟨s, hs1⟩ : ∃ s, ss[m + 1]? = some s := ⟨_, List.getElem?_eq_getElem (by omega)⟩
    obtain ⟨s0, hs0⟩ : ∃ s, ss[0]? = some s := ⟨_, List.getElem?_eq_getElem (by omega)⟩
    obtain ⟨y, hy, hA⟩ := prC_at hS hs1
    have hA := hA.same eW
    have e1 : ss.take (m + 2) = ss.take (m + 1) ++ [s] := by rw [List.take_add_one, hs1]; rfl
    have e2 : ss.length - (i + 1) = m + 1 := by omega
    rw [hm, e1] at hb
    obtain ⟨c0, cr, hcr⟩ : ∃ c0 cr, ss.take (m + 1) = c0 :: cr := by
      cases hh : ss.take (m + 1) with
      | nil =>
        have := congrArg List.length hh
        rw [List.length_take, List.length_nil] at this
        omega
      | cons c0 cr => exact ⟨c0, cr, rfl⟩
    rw [hcr, List.map_append, List.map_cons, List.map_cons, List.map_nil, joQ_snoc, ← List.map_cons, ← hcr, ← e2] at hb
    have hlvW := eW _ _ hlv
    have ix : L2.atI (ls.map V.ref) (((ls.map V.ref).length : Int) - 1 - ((i : Nat) : Int)) = some (.ref y) := by
      rw [List.length_map, show ((ls.length : Nat) : Int) - 1 - (i : Int) = ((m + 1 : Nat) : Int) by omega]
      exact L2.atI_nat (by rw [List.getElem?_map, hy]; rfl)
    cases ev with
    | true =>
      obtain ⟨d, ic, dx, p, b1, b2, hx, hp, hb1, hb2⟩ := id hb
      walk_at "gx"
      refine fun mf => ?_
      refine isi_df d hx mf ?_
      try dsimp only [bIf, isB, Bool.not_true]
      walk_at "gx"
      refine Atr.df d hx rfl ?_
      walk_at "gx"
      refine ⟨B, b2, y, s, L, rfl, hb2, hA, lf s (List.mem_of_getElem? hs1), okL, lL, fun W2 e3 => ?_⟩
      try dsimp only [bIf, isB, Bool.not_true]
      walk_at "gx"
      refine Atr.df d (e3 _ _ hx) rfl ?_
      walk_at "gx"
      exact ⟨b1, _, rfl, eW.trans e3, hb1.same e3⟩
    | false =>
      obtain ⟨d, ic, dx, p, b1, b2, hx, hp, hb1, hb2⟩ := id hb
      walk_at "gx"
      refine fun mf => ?_
      refine isi_df d hx mf ?_
      try dsimp only [bIf, isB, Bool.not_true]
      walk_at "gx"
      refine Atr.df d hx rfl ?_
      walk_at "gx"
      refine ⟨B, b2, y, s, L, rfl, hb2, hA, lf s (List.mem_of_getElem? hs1), okL, lL, fun W2 e3 => ?_⟩
      try dsimp only [bIf, isB, Bool.not_true]
      walk_at "gx"
      refine Atr.df d (e3 _ _ hx) rfl ?_
      walk_at "gx"
      exact ⟨b1, _, rfl, eW.trans e3, hb1.same e3⟩
  · rintro σ W ⟨b, x4, rfl, eW, hb⟩
    have hlvW := eW _ _ hlv
    have en : (((ls.map V.ref).length : Int) - 1).toNat = ls.length - 1 := by rw [List.length_map]; omega
    have hb : QA K W b (joQ ev ((ss.take (ss.length - (((ls.map V.ref).length : Int) - 1).toNat)).map lfQ)) := hb
    rw [en] at hb
    cases hS with
    | @cons s y ss ys hA hS =>
      have e1 : (s :: ss).length - ((y :: ys).length - 1) = 1 := by rw [← lls, List.length_cons]; omega
      rw [e1] at hb
      have hb : QA K W b (lfQ s) := by cases ev <;> exact hb
      have ix : L2.atI ((y :: ys).map V.ref) 0 = some (.ref y) := L2.atI_nat (j := 0) rfl
      walk_at "gx"
      refine ifd (fun _ => ?_) (fun h => absurd (show (0 : Int) < (((y :: ys).map V.ref).length : Nat) by rw [List.length_map, List.length_cons]; omega) h)
      walk_at "gx"
      refine ⟨B, b, y, s, L, rfl, hb, hA.same eW, lf s List.mem_cons_self, okL, lL, fun W2 e2 => ?_⟩
      exact k W2 (eW.trans e2)
    | nil =>
      obtain ⟨c, hc, hb⟩ : ∃ c : Int, c = (if ev then 0 else -1) ∧ QA K W b (.atm [] c) := ⟨_, rfl, by cases ev <;> exact hb⟩
      obtain ⟨d, ⟨so, lT, sm⟩, ic, dx, p, u, us, hx, hu, hCu⟩ := id hb
      cases hCu
      have hut : SqT K W u [] := hu.t
      walk_at "gx"
      unfold t__law_chain_4
      walk_at "gx"
      refine fun mf => ?_
      refine isi_df d hx mf ?_
      try dsimp only [bIf, isB, Bool.not_true]
      walk_at "gx"
      refine Atr.df d hx rfl ?_
      walk_at "gx"
      refine isi_tup hu.t ?_
      try dsimp only [bIf, isB, Bool.not_true]
      walk_at "gx"
      refine Atr.df d hx rfl ?_
      walk_at "gx"
      unfold t__law_chain_5
      cases ev with
      | true =>
        have hc : c = 0 := hc
        subst hc
        walk_at "gx"
        refine Atr.df d hx rfl ?_
        walk_at "gx"
        refine ⟨0, rfl, ?_⟩
        try dsimp only [bIf, isB, Bool.not_true]
        walk_at "gx"
        refine Atr.df d hx rfl ?_
        walk_at "gx"
        show tOp oIsT (dDyn K csT "truth" (sp_truth K nT) (EW E) (dVar 3) (tCons dNewK tNil)) (tC (V.bl true)) [some (.ref a), some (.ref lv), some (.bl true), some (.ref b), x4] W Q
        walk_at "gx"
        refine hb.dyn (by decide) ?_
        refine ⟨fun dd ndd => ?_⟩
        have e3 := same_new (o := .dK []) ndd
        have hdd : upd W dd (.dK []) dd = some (.dK (dkR [])) := upd_same
        generalize upd W dd (.dK []) = W3 at *
        try dsimp only [tNil]
        refine ⟨b, dd, .atm [] (0), [], rfl, rfl, by show 1 ≤ nT; omega, hb.same e3, trivial, .inl hdd, (fun z hz => by cases hz), fun W4 e4 => ?_⟩
        refine IsT.o ?_
        exact k W4 (eW.trans (e3.trans e4))
      | false =>
        have hc : c = -1 := hc
        subst hc
        walk_at "gx"
        refine Atr.df d hx rfl ?_
        walk_at "gx"
        refine ⟨-1, rfl, ?_⟩
        try dsimp only [bIf, isB, Bool.not_true]
        walk_at "gx"
        refine Atr.df d hx rfl ?_
        walk_at "gx"
        show tOp oIsT (dDyn K csT "truth" (sp_truth K nT) (EW E) (dVar 3) (tCons dNewK tNil)) (tC (V.bl false)) [some (.ref a), some (.ref lv), some (.bl false), some (.ref b), x4] W Q
        walk_at "gx"
        refine hb.dyn (by decide) ?_
        refine ⟨fun dd ndd => ?_⟩
        have e3 := same_new (o := .dK []) ndd
        have hdd : upd W dd (.dK []) dd = some (.dK (dkR [])) := upd_same
        generalize upd W dd (.dK []) = W3 at *
        try dsimp only [tNil]
        refine ⟨b, dd, .atm [] (-1), [], rfl, rfl, by show 1 ≤ nT; omega, hb.same e3, trivial, .inl hdd, (fun z hz => by cases hz), fun W4 e4 => ?_⟩
        refine IsT.o ?_
        exact k W4 (eW.trans (e3.trans e4))
end S
namespace S
open PySem PySem.Spec PyProof.Rows L2
def t__law_columns_b1_2 (K : Frag) (E : XK) : TS :=
    tDrop (dML K mApp (dVar 5) (tCons (dTup K (tCons (dVar 6) (tCons (tOp (oAdd K) (tC (.int 1)) (dVar 7)) (tNil)))) (tNil)))
def t__law_columns_b1_1 (K : Frag) (E : XK) : TS :=
    tSeq (tAsg (tOp oSub (dVar 4) (dVar 7)) (gName 4))
    (stop (t__law_columns_b1_2 K E))
def t__law_columns_b1 (K : Frag) (E : XK) : TS :=
    tSeq (tAsg (dCall (sp__law_draw K) (EW E) (tCons (dVar 0) (tCons (dVar 1) (tCons (tOp (oAdd K) (tCB cMin2 (tCons (dVar 4) (tCons (tC (.int 5)) (tNil)))) (tC (.int 1))) (tNil))))) (gName 7))
    (stop (t__law_columns_b1_1 K E))
def t__law_columns_4 (K : Frag) (E : XK) : TS :=
    tRet (dVar 5)
def t__law_columns_3 (K : Frag) (E : XK) : TS :=
    tSeq (dFor (iSeq K (dCall (sp__law_names K) (EW E) (tCons (dVar 0) (tCons (dVar 1) (tCons (dVar 3) (tNil)))))) (gName 6) (t__law_columns_b1 K E))
    (stop (t__law_columns_4 K E))
def t__law_columns_2 (K : Frag) (E : XK) : TS :=
    tSeq (tAsg (dLst (tNil)) (gName 5))
    (stop (t__law_columns_3 K E))
def t__law_columns_1 (K : Frag) (E : XK) : TS :=
    tSeq (tAsg (tOp oSub (dVar 2) (tOp oMulA (tC (.int 2)) (dVar 3))) (gName 4))
    (stop (t__law_columns_2 K E))
def t__law_columns (K : Frag) (E : XK) : TS :=
    tSeq (tAsg (tOp (oIx K) (dLst (tCons (tC (.int 1)) (tCons (tC (.int 2)) (tCons (tC (.int 3)) (tCons (tC (.int 1)) (tCons (tC (.int 2)) (tCons (tC (.int 0)) (tNil)))))))) (dCall (sp__law_draw K) (EW E) (tCons (dVar 0) (tCons (dVar 1) (tCons (tC (.int 6)) (tNil)))))) (gName 3))
    (stop (t__law_columns_1 K E))
end S
-- fn: _law_columns
-- law: k41
-- deps: _law_names Fstay Cols
namespace S
open PySem PySem.Spec PyProof.Rows L2
theorem mget1c {α : Type} {g : α → V} {ns : List α} {i : Nat} {x : V} (h : (ns.map g)[i]? = some x) : ∃ y, ns[i]? = some y ∧ x = g y := by
  rw [List.getElem?_map] at h
  cases e : ns[i]? with
  | none => rw [e] at h; cases h
  | some y => rw [e] at h; exact ⟨y, rfl, (Option.some.inj h).symm⟩
theorem colsnocC {K : Frag} {H : Hp} {y : V} {c : Col} : ∀ {ys : List V} {cs : List Col}, Cols K H ys cs → ColT K H c y → Cols K H (ys ++ [y]) (cs ++ [c])
  | _, _, .nil, h => .cons h .nil
  | _, _, .cons a t, h => .cons a (colsnocC t h)
def sp__law_columns (K : Frag) : Sp := fun vs H Q _ => ∃ (a st : Addr) (m : Int), vs = [.ref a, .ref st, .int m] ∧ Ctx K H a st ∧ 6 ≤ m ∧ m ≤ 100 ∧
  ∀ (p : Addr) (ys : List V) (cs : List Col) (H' : Hp), H p = none → H' p = some (.lst ys) → Cols K H' ys cs → cs.length ≤ 3 → (cs.map fun c => c.1).Nodup → (∀ c ∈ cs, nameOk c.1 ∧ 1 ≤ c.2 ∧ c.2 ≤ 6) → Ctx K H' a st → SameX st H H' → Q (.ref p) H'
theorem pure__law_columns {K : Frag} (vs : List V) (H : Hp) (Q : VK) (E : XK) (h : sp__law_columns K vs H Q E) : t__law_columns K E { nx := fun _ H' => Q .non H', rt := Q } (start ["_law_script", "_law_state", "_law_most", "_law_count", "_law_room", "_law_columns_here", "_law_name", "_law_extra"] vs) H := by
  obtain ⟨a, st, m, rfl, hc, m0, m1, q⟩ := h
  walk_at "gx"
  refine ⟨fun g ng => ?_⟩
  have f1 := same_new (o := .lst [.int 1, .int 2, .int 3, .int 1, .int 2, .int 0]) ng
  have gst := ctx_ne hc ng
  have c1 := hc.same f1
  have hg : upd H g (.lst [.int 1, .int 2, .int 3, .int 1, .int 2, .int 0]) g = some (.lst [.int 1, .int 2, .int 3, .int 1, .int 2, .int 0]) := upd_same
  have s1 : SameX st H (upd H g (.lst [.int 1, .int 2, .int 3, .int 1, .int 2, .int 0])) := Same.x f1
  generalize upd H g (.lst [.int 1, .int 2, .int 3, .int 1, .int 2, .int 0]) = H1 at *
  refine ⟨a, st, _, rfl, c1, by decide, fun w H2 w0 w1 c2 e2 => ?_⟩
  have w1 : w < 6 := w1
  obtain ⟨j, rfl⟩ := Int.eq_ofNat_of_zero_le w0
  have hj : j < 6 := by omega
  obtain ⟨n, hn, n0, n3⟩ : ∃ n : Int, ([V.int 1, V.int 2, V.int 3, V.int 1, V.int 2, V.int 0])[j]? = some (.int n) ∧ 0 ≤ n ∧ n ≤ 3 := by
    rcases j with _ | _ | _ | _ | _ | _ | j
    · exact ⟨1, rfl, by decide, by decide⟩
    · exact ⟨2, rfl, by decide, by decide⟩
    · exact ⟨3, rfl, by decide, by decide⟩
    · exact ⟨1, rfl, by decide, by decide⟩
    · exact ⟨2, rfl, by decide, by decide⟩
    · exact ⟨0, rfl, by decide, by decide⟩
    · omega
  refine Rd.l (e2 _ _ hg gst) (S.At.of (v := .int n) (atI_nat hn) ?_)
  have s2 := s1.trans e2
  refine ⟨?_⟩
  refine Need.mk (.inl (by decide)) ?_
  walk_at "gx"
  refine ⟨fun p np => ?_⟩
  have f3 := same_new (o := .lst ([] : List V)) np
  have pst := ctx_ne c2 np
  have c3 := c2.same f3
  have hp : upd H2 p (.lst ([] : List V)) p = some (.lst []) := upd_same
  have s3 : SameX st H2 (upd H2 p (.lst ([] : List V))) := Same.x f3
  generalize upd H2 p (.lst ([] : List V)) = H3 at *
  walk_at "gx"
  refine ⟨a, st, n, rfl, c3, n0, by omega, fun pn L H4 npn hpn lL nL okn c4 e4 => ?_⟩
  have pnst := ctx_ne c3 npn
  have ppn : p ≠ pn := ne_of_none hp npn
  have hp4 := e4 _ _ hp pst
  refine for_lst (K := K) (xs := L.map V.str) (fun i σ W => ∃ (ys : List V) (cs : List Col) (rm : Int) (x6 x7 : Option V), σ = [some (.ref a), some (.ref st), some (.int m), some (.int n), some (.int rm), some (.ref p), x6, x7] ∧ W p = some (.lst ys) ∧ Cols K W ys cs ∧ (cs.map fun c => c.1) = L.take i ∧ (∀ c ∈ cs, nameOk c.1 ∧ 1 ≤ c.2 ∧ c.2 ≤ 6) ∧ 0 ≤ rm ∧ Ctx K W a st ∧ W pn = some (.lst (L.map V.str)) ∧ SameX st H2 W) hpn ⟨[], [], _, _, _, rfl, hp4, .nil, rfl, (fun _ z => nomatch z), by show 0 ≤ m - 2 * n; omega, c4, hpn, s3.trans e4⟩ (fun i σ W ⟨_, _, _, _, _, _, _, _, _, _, _, _, z, _⟩ => z) ?_ ?_
  · rintro i v σ W hi ⟨ys, cs, rm, x6, x7, rfl, hy, hC, hcs, okc, rm0, c, hw, s⟩
    obtain ⟨z, hz, rfl⟩ := mget1c hi
    have il : i < L.length := (List.getElem?_eq_some_iff.mp hz).1
    obtain ⟨l0, hst⟩ := ctx_st c
    walk_at "gx"
    refine ⟨a, st, _, rfl, c, by show 0 < min rm 5 + 1; omega, fun d W2 d0 d1 c5 e5 => ?_⟩
    have d1 : d < min rm 5 + 1 := d1
    have hy5 := e5 _ _ hy pst
    have hC5 := hC.x e5 hst
    have lcs : cs.length = i := by have := congrArg List.length hcs; rw [List.length_map, List.length_take] at this; omega
    have lys : ys.length = i := by rw [← Paired.length hC, lcs]
    have lz : ys.length < sizeLine := by rw [sizeLine_eq]; omega
    walk_at "gx"
    refine ⟨fun t W3 e6 ht => ?_⟩
    have hy6 := e6 _ _ hy5
    have ex : SameX p W3 (L2.upd W3 p (.lst (ys ++ [.ref t]))) := SameX.upd
    walk_at "gx"
    refine ⟨ys ++ [.ref t], cs ++ [(z, 1 + d)], _, _, _, rfl, upd_same, colsnocC ((hC5.same e6).x ex hy6) ⟨t, rfl, ex.tup ht hy6⟩, ?_, fun c hc => ?_, by show 0 ≤ rm - d; omega, (c5.same e6).mut c2 np, ex _ _ (e6 _ _ (e5 _ _ hw pnst)) (Ne.symm ppn), SameX.mut ((s.trans e5).trans (Same.x e6)) np⟩
    · rw [List.map_append, hcs, List.take_add_one, hz]; rfl
    · rcases List.mem_append.mp hc with hc | hc
      · exact okc c hc
      · rw [List.mem_singleton.mp hc]
        exact ⟨okn z (List.mem_of_getElem? hz), by show 1 ≤ 1 + d; omega, by show 1 + d ≤ 6; omega⟩
  · rintro σ W ⟨ys, cs, rm, x6, x7, rfl, hy, hC, hcs, okc, rm0, c, hw, s⟩
    rw [List.length_map, List.take_length] at hcs
    have lcs : cs.length = L.length := by have := congrArg List.length hcs; rw [List.length_map] at this; exact this
    walk_at "gx"
    exact q p ys cs W (by cases hp0 : H p with | none => rfl | some o => have := s2 _ _ hp0 pst; rw [np] at this; cases this) hy hC (by omega) (by rw [hcs]; exact nL) okc c (s2.trans s)
end S
-- deps: Schema_init D0 D1
/-! ## comprehensions over lists of pairs (a name, a number) -/
namespace S
open PySem PySem.Spec PyProof.Rows L2
theorem tk_filter {α : Type} {cs : List α} {pr : α → Bool} {i : Nat} {c : α} (hc : cs[i]? = some c) : (cs.take (i + 1)).filter pr = (cs.take i).filter pr ++ (if pr c = true then [c] else []) := by
  rw [List.take_succ, hc, List.filter_append]
  congr 1
  show [c].filter pr = _
  by_cases e : pr c = true <;> simp [e]
theorem lc_colsI {K : Frag} {p : Addr} {ys : List V} {cs : List Col} {g : TG} {tt : TT} {te : TE} {vs : List Nat} {σ : L2.St} {H1 : Hp} {Q : VK} (f : Col → V) (pr : Col → Bool) (hx : SqA K H1 p ys) (hC : Cols K H1 ys cs) (lc : cs.length ≤ 100000)
    (hs : ∀ c ad H (A : V → Hp → Prop) (B : Hp → Prop), c ∈ cs → Same H1 H → SqT K H ad [.str c.1, .int c.2] → (pr c = true → A (f c) H) → (pr c = false → B H) →
      g (.ref ad) (wipe σ vs) H fun σ2 H2 => wipe σ2 vs = wipe σ vs ∧ tt σ2 H2 fun b H3 => if b = true then te σ2 H3 A else B H3)
    (hd : ∀ D H', H1 D = none → H' D = some (.lst ((cs.filter pr).map f)) → Same H1 H' → Q (.ref D) H') : Walk K H1 p (Wr (LcGo g tt te vs σ Q)) := by
  have ly : ys.length = cs.length := (Paired.length hC).symm
  refine lc_seq hx fun D hD => ⟨fun i H' => H' D = some (.lst (((cs.take i).filter pr).map f)) ∧ Same H1 H', ⟨by rw [List.take_zero]; exact upd_same, same_new hD⟩, fun i H' _ ⟨_, e⟩ ys => ⟨e.seq, Same.tup e⟩, ?_, fun H2 ⟨h1, e2⟩ => ?_⟩
  · rintro i y H hi ⟨h1, e1⟩
    obtain ⟨c, hc, ad, rfl, ht⟩ := cols_at (hC.same e1) hi
    refine hs c ad H _ _ (List.mem_of_getElem? hc) e1 ht (fun hp => ⟨_, h1, ?_, ?_, ?_⟩) fun hp => ⟨?_, e1⟩
    · have l2 := List.length_filter_le pr (cs.take i)
      rw [List.length_take] at l2
      rw [List.length_map, sizeLine_eq]
      omega
    · rw [tk_filter hc, if_pos hp, List.map_append, upd_same]; rfl
    · exact Same.mut e1 hD
    · rw [tk_filter hc, if_neg (by rw [hp]; exact Bool.false_ne_true), List.append_nil]
      exact h1
  · rw [ly, List.take_length] at h1
    exact hd D H2 hD h1 e2
end S
namespace S
open PySem PySem.Spec PyProof.Rows L2
def t_AtMost_names (K : Frag) (E : XK) (n : Nat) : TS :=
    tRet (dLc (iSeq K (dAt K "terms" (dVar 0))) (gTup K 2 (gCons (gName 1) (gCons (gName 2) (gNil)))) (tYes) (dVar 1) [1, 2])
end S
namespace S
open PySem PySem.Spec PyProof.Rows L2
def t_Present_names (K : Frag) (E : XK) (n : Nat) : TS :=
    tRet (dLst (tCons (dAt K "name" (dVar 0)) (tNil)))
end S
namespace S
open PySem PySem.Spec PyProof.Rows L2
def t_HasBit_names (K : Frag) (E : XK) (n : Nat) : TS :=
    tRet (dLst (tCons (dAt K "name" (dVar 0)) (tNil)))
end S
-- fn: AtMost.names Present.names HasBit.names
-- law: k48
-- dynself: names
-- deps: Nq Lcc
namespace S
open PySem PySem.Spec PyProof.Rows L2
theorem pure_AtMost_names {K : Frag} (n : Nat) (vs : List V) (H : Hp) (Q : VK) (E : XK) (h : sp_names K (n + 1) "AtMost" vs H Q E) : t_AtMost_names K E n { nx := fun _ H' => Q .non H', rt := Q } (start ["self", "name", "_"] vs) H := by
  obtain ⟨a, q, D, rfl, hc, hd, hq, lD, sub, k⟩ := h
  cases q with
  | atm T b =>
    obtain ⟨d, ⟨so, lT, sm⟩, ic, dx, p, u, ys, hx, hu, hC⟩ := hq
    walk_at "gx"
    refine Atr.df d hx rfl ?_
    refine lc_colsI (fun c => .str c.1) (fun _ => true) (.inr hu.t) hC (by omega) ?_ ?_
    · intro c ad H1 A B hc e1 had hA _
      refine ⟨ad, _, rfl, had, rfl, _, _, rfl, _, _, rfl, rfl, rfl, ?_⟩
      unfold tYes
      dsimp only
      rw [if_pos rfl]
      exact hA rfl
    · intro D H1 nD hD e1
      refine k (nmT T) D H1 e1 nD ?_ so.nd so.st fun z => Iff.rfl
      rw [hD, List.filter_eq_self.mpr (fun _ _ => rfl)]
      unfold nmT
      rw [List.map_map]; rfl
  | _ => simp only [Qs.cls] at hc; exact absurd hc (by decide)
theorem pure_Present_names {K : Frag} (n : Nat) (vs : List V) (H : Hp) (Q : VK) (E : XK) (h : sp_names K (n + 1) "Present" vs H Q E) : t_Present_names K E n { nx := fun _ H' => Q .non H', rt := Q } (start ["self"] vs) H := by
  obtain ⟨a, q, D, rfl, hc, hd, hq, lD, sub, k⟩ := h
  cases q with
  | prs z =>
    obtain ⟨d, _, dx, p, ha⟩ := hq
    walk_at "gx"
    refine Atr.df d ha rfl ?_
    refine Need.mk (by rw [sizeLine_eq]; show 1 ≤ 16777216; decide) ⟨fun u nu => ?_⟩
    exact k [z] u _ (same_new nu) nu upd_same (List.pairwise_singleton _ _) (List.pairwise_singleton _ _) fun y => List.mem_singleton
  | _ => simp only [Qs.cls] at hc; exact absurd hc (by decide)
theorem pure_HasBit_names {K : Frag} (n : Nat) (vs : List V) (H : Hp) (Q : VK) (E : XK) (h : sp_names K (n + 1) "HasBit" vs H Q E) : t_HasBit_names K E n { nx := fun _ H' => Q .non H', rt := Q } (start ["self"] vs) H := by
  obtain ⟨a, q, D, rfl, hc, hd, hq, lD, sub, k⟩ := h
  cases q with
  | bit z i =>
    obtain ⟨d, _, dx, p, ha⟩ := hq
    walk_at "gx"
    refine Atr.df d ha rfl ?_
    refine Need.mk (by rw [sizeLine_eq]; show 1 ≤ 16777216; decide) ⟨fun u nu => ?_⟩
    exact k [z] u _ (same_new nu) nu upd_same (List.pairwise_singleton _ _) (List.pairwise_singleton _ _) fun y => List.mem_singleton
  | _ => simp only [Qs.cls] at hc; exact absurd hc (by decide)
end S
namespace S
open PySem PySem.Spec PyProof.Rows L2
def t_Question_names_b1 (K : Frag) (E : XK) (n : Nat) : TS :=
    tDrop (dML K mExt (dVar 1) (tCons (dDyn0 K csT "names" (sp_names K n) (EW E) (dVar 2)) (tNil)))
def t_Question_names_2 (K : Frag) (E : XK) (n : Nat) : TS :=
    tRet (dSSetS K (dVar 1))
def t_Question_names_1 (K : Frag) (E : XK) (n : Nat) : TS :=
    tSeq (dFor (iSeq K (dAt K "parts" (dVar 0))) (gName 2) (t_Question_names_b1 K E n))
    (stop (t_Question_names_2 K E n))
def t_Question_names (K : Frag) (E : XK) (n : Nat) : TS :=
    tSeq (tAsg (dLst (tNil)) (gName 1))
    (stop (t_Question_names_1 K E n))
end S
-- fn: Question.names
-- law: k48
-- dynself: names
-- dyn: names
-- setS: yes
-- deps: Nq Fstay
namespace S
open PySem PySem.Spec PyProof.Rows L2
theorem pure_Question_names {K : Frag} (n : Nat) (c : Str) (hc0 : c ∈ ([("Both" : Str), "Either", "Opposite", "Surely"] : List Str)) (vs : List V) (H : Hp) (Q : VK) (E : XK) (h : sp_names K (n + 1) c vs H Q E) : t_Question_names K E n { nx := fun _ H' => Q .non H', rt := Q } (start ["self", "found", "part"] vs) H := by
  obtain ⟨a, q, D, rfl, hc, hd, hq, lD, sub, k⟩ := h
  obtain ⟨ps, p, dx, ups, fs, as, d, ha, hp, hps, lps, hz⟩ := hq.parts (hc ▸ hc0)
  walk_at "gx"
  refine ⟨fun f nf => ?_⟩
  have e1 := same_new (o := .lst ([] : List V)) nf
  have hf1 : upd H f (.lst ([] : List V)) f = some (.lst (([] : List Str).map V.str)) := upd_same
  generalize upd H f (.lst ([] : List V)) = H1 at *
  walk_at "gx"
  refine Atr.df d (e1 _ _ ha) rfl ?_ (hf := List.mem_cons_self ..)
  refine for_seq0 (K := K) (H0 := H) (fun i σ W => ∃ (F : List Str) (x2 : Option V), σ = [some (.ref a), some (.ref f), x2] ∧ Same H W ∧ W f = some (.lst (F.map V.str)) ∧ F.length ≤ 63 * i ∧ ∀ z, z ∈ F ↔ ∃ t ∈ ps.take i, t.2.has z) (.inr hp) e1 ⟨[], none, rfl, e1, hf1, Nat.zero_le _, fun z => by simp⟩ (fun i σ W ⟨_, _, _, e, _⟩ => e) ?_ ?_
  · rintro i v σ W hi ⟨F, x2, rfl, e, hf, lF, hF⟩
    obtain ⟨t, ht, rfl⟩ : ∃ t, ps[i]? = some t ∧ v = .ref t.1 := by
      rw [List.getElem?_map] at hi
      obtain ⟨l, h1, h2⟩ := Option.map_eq_some_iff.mp hi
      exact ⟨l, h1, h2.symm⟩
    have il := (List.getElem?_eq_some_iff.mp ht).1
    obtain ⟨hq1, hd1⟩ := hps t (List.mem_of_getElem? ht)
    have hqW := hq1.same e
    walk_at "gx"
    refine hqW.dyn (by decide) ⟨t.1, t.2, D, rfl, rfl, by omega, hqW, lD, fun z hz' => sub z ((hz z).mpr ⟨t, List.mem_of_getElem? ht, hz'⟩), fun L l W1 f1 nl hl nd pw hm => ?_⟩
    have lL : L.length ≤ 63 := by
      have := nodup_len L D nd fun z hz' => sub z ((hz z).mpr ⟨t, List.mem_of_getElem? ht, (hm z).mp hz'⟩)
      omega
    have hfW := f1 _ _ hf
    walk_at "gx"
    refine ⟨F ++ L, _, rfl, Same.mut (e.trans f1) nf, by rw [upd_same, List.map_append], by rw [List.length_append]; omega, fun z => ?_⟩
    rw [List.mem_append, hF, hm, List.take_add_one, ht]
    simp
  · rintro σ W ⟨F, x2, rfl, e, hf, lF, hF⟩
    rw [List.length_map, List.take_length] at hF
    rw [List.length_map] at lF
    have sb : (4000 : Nat) ≤ scanBound := by decide
    walk_at "gx"
    refine ⟨⟨F, D, SqL.of hf, by omega, lD, fun z hz' => ?_, fun ys q2 W1 nd hs hm f1 nq hq2 => ?_⟩⟩
    · obtain ⟨t, ht, h1⟩ := (hF z).mp hz'
      exact sub z ((hz z).mpr ⟨t, ht, h1⟩)
    · refine k ys q2 W1 (e.trans f1) ?_ hq2 nd (sorted_pw _ hs) fun z => by rw [hm, hF, hz]
      cases h0 : H q2 with
      | none => rfl
      | some o => rw [e _ _ h0] at nq; cases nq
end S
namespace S
open PySem PySem.Spec PyProof.Rows L2
def t_Form_value_b1_1 (K : Frag) (E : XK) : TS :=
    tAsg (tOp (oAdd K) (dVar 2) (tOp oMulA (dVar 4) (tOp (oIxD K) (dVar 1) (dVar 3)))) (gName 2)
def t_Form_value_b1 (K : Frag) (E : XK) : TS :=
    tSeq (dIfS (dCmpT oIsN (tOp (oIxD K) (dVar 1) (dVar 3)) (tC .non)) (tRet (tC .non)) (tNext))
    (stop (t_Form_value_b1_1 K E))
def t_Form_value_2 (K : Frag) (E : XK) : TS :=
    tRet (dVar 2)
def t_Form_value_1 (K : Frag) (E : XK) : TS :=
    tSeq (dFor (iSeq K (dAt K "terms" (dVar 0))) (gTup K 2 (gCons (gName 3) (gCons (gName 4) (gNil)))) (t_Form_value_b1 K E))
    (stop (t_Form_value_2 K E))
def t_Form_value (K : Frag) (E : XK) : TS :=
    tSeq (tAsg (dAt K "offset" (dVar 0)) (gName 2))
    (stop (t_Form_value_1 K E))
end S
-- fn: Form.value
-- law: k38
-- dict: row
-- deps: Form_init Fm2 Rw
namespace S
open PySem PySem.Spec PyProof.Rows L2
def sp_Form_value (K : Frag) : Sp := fun vs H Q _ => ∃ (x r : Addr) (T : Tms) (o : Int) (R : Row), vs = [.ref x, .ref r] ∧ Fo K H x T o ∧ L2.Rd H r (.dK (dkR R)) ∧ (∀ t ∈ T, -(2 ^ 64) < t.2 ∧ t.2 < 2 ^ 64) ∧ (∀ t ∈ T, (lkR R t.1).isSome) ∧ Q (vRow (valT R T o)) H
theorem pure_Form_value {K : Frag} (vs : List V) (H : Hp) (Q : VK) (E : XK) (h : sp_Form_value K vs H Q E) : t_Form_value K E { nx := fun _ H' => Q .non H', rt := Q } (start ["self", "row", "value", "name", "weight"] vs) H := by
  obtain ⟨x, r, T, o, R, rfl, hf, hr, wT, inR, q⟩ := h
  obtain ⟨cf, so, lT, dx, u, ys, s0, hu, hC⟩ := id hf
  walk_at "gx"
  refine Atr.sl cf s0 (i := 0) rfl rfl ?_
  walk_at "gx"
  refine Atr.sl cf s0 (i := 1) rfl rfl ?_
  refine for_seq (K := K) (fun i σ H1 => H1 = H ∧ ∃ (w : Int) (a b : Option V), σ = [some (.ref x), some (.ref r), some (.int w), a, b] ∧ valT R T o = valT R (T.drop i) w) (.inr hu.t) ⟨rfl, _, _, _, rfl, rfl⟩ (fun i σ H' _ z => by rw [z.1]; exact Same.stay (Same.refl _)) ?_ ?_
  · rintro i v σ H1 hi ⟨rfl, w, a, b, rfl, hw⟩
    obtain ⟨t, ht, ad, rfl, hv⟩ := cols_atF hC hi
    have tm := List.mem_of_getElem? ht
    have il : i < T.length := (List.getElem?_eq_some_iff.mp ht).1
    have ed : T.drop i = t :: T.drop (i + 1) := by rw [List.drop_eq_getElem_cons il]; congr 1; exact (List.getElem?_eq_some_iff.mp ht).2
    refine ⟨ad, _, rfl, hv, rfl, _, _, rfl, _, _, rfl, rfl, ?_⟩
    obtain ⟨e, he⟩ := Option.isSome_iff_exists.mp (inR t tm)
    have hg : valV (dkR R) (.inr t.1) = some (vRow e) := by rw [dkR_val, he]; rfl
    rw [ed] at hw
    walk_at "gx"
    refine DG.s hr hg ?_
    cases e with
    | none =>
      have hw : valT R T o = none := by
        rw [hw]
        show (match lkR R t.1 with | some (some c) => valT R (T.drop (i + 1)) (w + t.2 * c) | _ => none) = none
        rw [he]
      rw [hw] at q
      refine ⟨rfl, ?_⟩
      exact q
    | some c =>
      have hw : valT R T o = valT R (T.drop (i + 1)) (w + t.2 * c) := by
        rw [hw]
        show (match lkR R t.1 with | some (some c) => valT R (T.drop (i + 1)) (w + t.2 * c) | _ => none) = _
        rw [he]
      refine ⟨rfl, ?_⟩
      refine ⟨?_⟩
      refine DG.s hr hg ?_
      refine Need.mk (.inl (wT t tm)) ?_
      exact ⟨rfl, _, _, _, rfl, hw⟩
  · rintro σ H1 ⟨rfl, w, a, b, rfl, hw⟩
    rw [← hC.length, List.drop_length] at hw
    walk_at "gx"
    rw [hw] at q
    exact q
end S
namespace S
open PySem PySem.Spec PyProof.Rows L2
end S
-- fn: Form.plus
-- law: k38
-- dict: terms
-- deps: Form_init Fm2 Fstay
namespace S
open PySem PySem.Spec PyProof.Rows L2
/-- the pairs of a form, for dict(..) -/
theorem cols_refs {K : Frag} {H : Hp} : ∀ {ys : List V} {T : Tms}, Cols K H ys T → ∃ ps : List Addr, ys = ps.map V.ref ∧ Paired (fun p (kv : Key × V) => SqT K H p [kV kv.1, kv.2]) ps (dkI T)
  | _, _, .nil => ⟨[], rfl, .nil⟩
  | _, _, .cons ⟨a, e, h⟩ r => by
    obtain ⟨ps, h1, h2⟩ := cols_refs r
    exact ⟨a :: ps, by rw [e, h1]; rfl, .cons h h2⟩
theorem dictC_form {K : Frag} {H : Hp} {u : Addr} {Q : VK} {ys : List V} {T : Tms} (hu : TupF H u ys) (hC : Cols K H ys T) (nd : (nmT T).Nodup) (q : ∀ p, H p = none → Q (.ref p) (upd H p (.dK (dkI T)))) : DictC K H u Q := by
  obtain ⟨ps, rfl, hp⟩ := cols_refs hC
  refine DictC.t hu hp fun p np => ?_
  rw [merge_dkI nd]
  exact q p np
end S
namespace S
open PySem PySem.Spec PyProof.Rows L2
def t_AtMost_truth_2 (K : Frag) (E : XK) (n : Nat) : TS :=
    tRet (tOp oLe (dVar 2) (dAt K "bound" (dVar 0)))
def t_AtMost_truth_1 (K : Frag) (E : XK) (n : Nat) : TS :=
    tSeq (dIfS (dCmpT oIsN (dVar 2) (tC .non)) (tRet (tC .non)) (tNext))
    (stop (t_AtMost_truth_2 K E n))
def t_AtMost_truth (K : Frag) (E : XK) (n : Nat) : TS :=
    tSeq (tAsg (dMeth K "Form" (sp_Form_value K) (EW E) (dGiv (CF K "Form" ["offset", "terms"]) (dMake K "Form" (spD (sp_Formdd_initdd K) [V.int 0]) (EW E) (tCons (tCB (cDict K) (tCons (dAt K "terms" (dVar 0)) (tNil))) (tNil)))) (tCons (dVar 1) (tNil))) (gName 2))
    (stop (t_AtMost_truth_1 K E n))
end S
-- fn: AtMost.truth
-- law: k39
-- dynself: truth
-- deps: Qs Form_value Form_plus
namespace S
open PySem PySem.Spec PyProof.Rows L2
theorem pure_AtMost_truth {K : Frag} (n : Nat) (vs : List V) (H : Hp) (Q : VK) (E : XK) (h : sp_truth K (n + 1) "AtMost" vs H Q E) : t_AtMost_truth K E n { nx := fun _ H' => Q .non H', rt := Q } (start ["self", "row", "value"] vs) H := by
  obtain ⟨a, r, q, R, rfl, hc, _, hq, _, hr, hin, k⟩ := h
  cases q with
  | atm T b =>
    obtain ⟨d, ⟨so, lT, sm⟩, _, dx, p, u, ys, ha, hu, hC⟩ := hq
    walk_at "gx"
    refine fun cf => ?_
    refine Atr.df d ha rfl ?_
    refine dictC_form hu hC so.nd fun dd nd => ?_
    have e1 := same_new (o := .dK (dkI T)) nd
    have hd : upd H dd (.dK (dkI T)) dd = some (.dK (dkI T)) := upd_same
    generalize upd H dd (.dK (dkI T)) = H1 at *
    refine mk_form cf (.inl hd) so.nd lT fun W f H2 e2 nf sW hW fW => ?_
    have : W = T := srt_ext sW so hW
    subst this
    obtain ⟨_, _, _, _, _, _, s0, _⟩ := id fW
    have e12 := e1.trans e2
    refine .of s0 ⟨f, r, W, 0, R, rfl, fW, Rd.sm hr e12, sm, (fun t ht => hin t.1 (List.mem_map.mpr ⟨t, ht, rfl⟩)), ?_⟩
    have k := k H2 e12
    have k : Q (vT ((valT R W 0).map fun v => decide (v ≤ b))) H2 := k
    walk_at "gx"
    cases hv : valT R W 0 with
    | none =>
      rw [hv] at k
      refine ⟨rfl, ?_⟩
      exact k
    | some c =>
      refine ⟨rfl, ?_⟩
      refine ⟨?_⟩
      rw [hv] at k
      refine Atr.df d (e12 _ _ ha) rfl ?_
      exact k
  | _ => simp only [Qs.cls] at hc; exact absurd hc (by decide)
end S
namespace S
open PySem PySem.Spec PyProof.Rows L2
def t_rank_of_2 (K : Frag) (E : XK) : TS :=
    tRet (tC (.int 0))
def t_rank_of_1 (K : Frag) (E : XK) : TS :=
    tSeq (dIfS (dTest K (dVar 0)) (tRet (tC (.int 2))) (tNext))
    (stop (t_rank_of_2 K E))
def t_rank_of (K : Frag) (E : XK) : TS :=
    tSeq (dIfS (dCmpT oIsN (dVar 0) (tC .non)) (tRet (tC (.int 1))) (tNext))
    (stop (t_rank_of_1 K E))
end S
-- fn: rank_of
-- law: k39
-- deps: Qs
namespace S
open PySem PySem.Spec PyProof.Rows L2
def sp_rank_of (K : Frag) : Sp := fun vs H Q _ => ∃ o : Option Bool, vs = [vT o] ∧ Q (.int (rk o : Nat)) H
theorem pure_rank_of {K : Frag} (vs : List V) (H : Hp) (Q : VK) (E : XK) (h : sp_rank_of K vs H Q E) : t_rank_of K E { nx := fun _ H' => Q .non H', rt := Q } (start ["truth"] vs) H := by
  obtain ⟨o, rfl, q⟩ := h
  cases o with
  | none =>
    walk_at "gx"
    refine ⟨rfl, ?_⟩
    exact q
  | some b =>
    cases b with
    | true =>
      walk_at "gx"
      refine ⟨rfl, ?_⟩
      refine ⟨?_⟩
      exact q
    | false =>
      walk_at "gx"
      refine ⟨rfl, ?_⟩
      refine ⟨?_⟩
      refine ⟨?_⟩
      exact q
theorem rk_lt (o : Option Bool) : rk o < 3 := by cases o with | none => decide | some b => cases b <;> decide
theorem ranked (k : Nat) (h : k < 3) : ([V.bl false, V.non, V.bl true])[k]? = some (vT (unrk k)) := by
  rcases k with _ | _ | _ | k
  · rfl
  · rfl
  · rfl
  · omega
end S
namespace S
open PySem PySem.Spec PyProof.Rows L2
def t_both_truths (K : Frag) (E : XK) : TS :=
    tRet (tOp (oIx K) (dGiv (TupG K "RANKED" [V.bl false, V.non, V.bl true]) (tC (.ref (He.ga K "RANKED")))) (tCB cMin2 (tCons (dCall (sp_rank_of K) (EW E) (tCons (dVar 0) (tNil))) (tCons (dCall (sp_rank_of K) (EW E) (tCons (dVar 1) (tNil))) (tNil)))))
end S
-- fn: both_truths
-- law: k39
-- deps: rank_of
namespace S
open PySem PySem.Spec PyProof.Rows L2
def sp_both_truths (K : Frag) : Sp := fun vs H Q _ => ∃ o p : Option Bool, vs = [vT o, vT p] ∧ Q (vT (ansB o p)) H
theorem pure_both_truths {K : Frag} (vs : List V) (H : Hp) (Q : VK) (E : XK) (h : sp_both_truths K vs H Q E) : t_both_truths K E { nx := fun _ H' => Q .non H', rt := Q } (start ["one", "other"] vs) H := by
  obtain ⟨o, p, rfl, q⟩ := h
  walk_at "gx"
  refine fun tg => ?_
  refine ⟨o, rfl, ?_⟩
  refine ⟨p, rfl, ?_⟩
  have h1 := rk_lt o
  have h2 := rk_lt p
  try refine Rd.sa (.inr (tg H)) ?_
  refine S.At.of (v := vT (ansB o p)) ?_ q
  have e : min (rk o : Int) (rk p : Int) = ((min (rk o) (rk p) : Nat) : Int) := by omega
  show atI _ (min (rk o : Int) (rk p : Int)) = _
  rw [e]
  exact atI_nat (ranked _ (by omega))
end S
namespace S
open PySem PySem.Spec PyProof.Rows L2
def t_Both_truth (K : Frag) (E : XK) (n : Nat) : TS :=
    tRet (dCall (sp_both_truths K) (EW E) (tCons (dDyn K csT "truth" (sp_truth K n) (EW E) (dAt K "one" (dVar 0)) (tCons (dVar 1) (tNil))) (tCons (dDyn K csT "truth" (sp_truth K n) (EW E) (dAt K "other" (dVar 0)) (tCons (dVar 1) (tNil))) (tNil))))
end S
-- fn: Both.truth
-- law: k39
-- dyn: truth
-- dynself: truth
-- deps: Qs both_truths
namespace S
open PySem PySem.Spec PyProof.Rows L2
theorem pure_Both_truth {K : Frag} (n : Nat) (vs : List V) (H : Hp) (Q : VK) (E : XK) (h : sp_truth K (n + 1) "Both" vs H Q E) : t_Both_truth K E n { nx := fun _ H' => Q .non H', rt := Q } (start ["self", "row"] vs) H := by
  obtain ⟨a, r, q, R, rfl, hc, hd, hq, hp, hr, hin, k⟩ := h
  cases q with
  | both q q2 =>
    obtain ⟨d, _, dx, p, b, c, ha, _, hb, hcq⟩ := hq
    have hd : max q.dep q2.dep + 1 ≤ n + 1 := hd
    walk_at "gx"
    refine Atr.df d ha rfl ?_
    refine hb.dyn (by decide) ⟨b, r, q, R, rfl, rfl, by omega, hb, hp.1, hr, (fun z hz => hin z (.inl hz)), fun H1 e1 => ?_⟩
    refine Atr.df d (e1 _ _ ha) rfl ?_
    have hc1 := hcq.same e1
    refine hc1.dyn (by decide) ⟨c, r, q2, R, rfl, rfl, by omega, hc1, hp.2, Rd.sm hr e1, (fun z hz => hin z (.inr hz)), fun H2 e2 => ?_⟩
    exact ⟨_, _, rfl, k H2 (e1.trans e2)⟩
  | _ => simp only [Qs.cls] at hc; exact absurd hc (by decide)
end S
namespace S
open PySem PySem.Spec PyProof.Rows L2
def t_either_truths (K : Frag) (E : XK) : TS :=
    tRet (tOp (oIx K) (dGiv (TupG K "RANKED" [V.bl false, V.non, V.bl true]) (tC (.ref (He.ga K "RANKED")))) (tCB cMax2 (tCons (dCall (sp_rank_of K) (EW E) (tCons (dVar 0) (tNil))) (tCons (dCall (sp_rank_of K) (EW E) (tCons (dVar 1) (tNil))) (tNil)))))
end S
-- fn: either_truths
-- law: k40
-- deps: rank_of
namespace S
open PySem PySem.Spec PyProof.Rows L2
def sp_either_truths (K : Frag) : Sp := fun vs H Q _ => ∃ o p : Option Bool, vs = [vT o, vT p] ∧ Q (vT (ansE o p)) H
theorem pure_either_truths {K : Frag} (vs : List V) (H : Hp) (Q : VK) (E : XK) (h : sp_either_truths K vs H Q E) : t_either_truths K E { nx := fun _ H' => Q .non H', rt := Q } (start ["one", "other"] vs) H := by
  obtain ⟨o, p, rfl, q⟩ := h
  walk_at "gx"
  refine fun tg => ?_
  refine ⟨o, rfl, ?_⟩
  refine ⟨p, rfl, ?_⟩
  have h1 := rk_lt o
  have h2 := rk_lt p
  try refine Rd.sa (.inr (tg H)) ?_
  refine S.At.of (v := vT (ansE o p)) ?_ q
  have e : max (rk o : Int) (rk p : Int) = ((max (rk o) (rk p) : Nat) : Int) := by omega
  show atI _ (max (rk o : Int) (rk p : Int)) = _
  rw [e]
  exact atI_nat (ranked _ (by omega))
end S
namespace S
open PySem PySem.Spec PyProof.Rows L2
def t_Either_truth (K : Frag) (E : XK) (n : Nat) : TS :=
    tRet (dCall (sp_either_truths K) (EW E) (tCons (dDyn K csT "truth" (sp_truth K n) (EW E) (dAt K "one" (dVar 0)) (tCons (dVar 1) (tNil))) (tCons (dDyn K csT "truth" (sp_truth K n) (EW E) (dAt K "other" (dVar 0)) (tCons (dVar 1) (tNil))) (tNil))))
end S
-- fn: Either.truth
-- law: k40
-- dyn: truth
-- dynself: truth
-- deps: Qs either_truths
namespace S
open PySem PySem.Spec PyProof.Rows L2
theorem pure_Either_truth {K : Frag} (n : Nat) (vs : List V) (H : Hp) (Q : VK) (E : XK) (h : sp_truth K (n + 1) "Either" vs H Q E) : t_Either_truth K E n { nx := fun _ H' => Q .non H', rt := Q } (start ["self", "row"] vs) H := by
  obtain ⟨a, r, q, R, rfl, hc, hd, hq, hp, hr, hin, k⟩ := h
  cases q with
  | eith q q2 =>
    obtain ⟨d, _, dx, p, b, c, ha, _, hb, hcq⟩ := hq
    have hd : max q.dep q2.dep + 1 ≤ n + 1 := hd
    walk_at "gx"
    refine Atr.df d ha rfl ?_
    refine hb.dyn (by decide) ⟨b, r, q, R, rfl, rfl, by omega, hb, hp.1, hr, (fun z hz => hin z (.inl hz)), fun H1 e1 => ?_⟩
    refine Atr.df d (e1 _ _ ha) rfl ?_
    have hc1 := hcq.same e1
    refine hc1.dyn (by decide) ⟨c, r, q2, R, rfl, rfl, by omega, hc1, hp.2, Rd.sm hr e1, (fun z hz => hin z (.inr hz)), fun H2 e2 => ?_⟩
    exact ⟨_, _, rfl, k H2 (e1.trans e2)⟩
  | _ => simp only [Qs.cls] at hc; exact absurd hc (by decide)
end S
namespace S
open PySem PySem.Spec PyProof.Rows L2
def t_opposite_truth (K : Frag) (E : XK) : TS :=
    tRet (tOp (oIx K) (dGiv (TupG K "RANKED" [V.bl false, V.non, V.bl true]) (tC (.ref (He.ga K "RANKED")))) (tOp oSub (tC (.int 2)) (dCall (sp_rank_of K) (EW E) (tCons (dVar 0) (tNil)))))
end S
-- fn: opposite_truth
-- law: k40
-- deps: rank_of
namespace S
open PySem PySem.Spec PyProof.Rows L2
def sp_opposite_truth (K : Frag) : Sp := fun vs H Q _ => ∃ o : Option Bool, vs = [vT o] ∧ Q (vT (ansO o)) H
theorem pure_opposite_truth {K : Frag} (vs : List V) (H : Hp) (Q : VK) (E : XK) (h : sp_opposite_truth K vs H Q E) : t_opposite_truth K E { nx := fun _ H' => Q .non H', rt := Q } (start ["truth"] vs) H := by
  obtain ⟨o, rfl, q⟩ := h
  walk_at "gx"
  refine fun tg => ?_
  refine ⟨o, rfl, ?_⟩
  have h1 := rk_lt o
  try refine Rd.sa (.inr (tg H)) ?_
  refine S.At.of (v := vT (ansO o)) ?_ q
  have e : 2 - (rk o : Int) = ((2 - rk o : Nat) : Int) := by omega
  show atI _ (2 - (rk o : Int)) = _
  rw [e]
  exact atI_nat (ranked _ (by omega))
end S
namespace S
open PySem PySem.Spec PyProof.Rows L2
def t_Opposite_truth (K : Frag) (E : XK) (n : Nat) : TS :=
    tRet (dCall (sp_opposite_truth K) (EW E) (tCons (dDyn K csT "truth" (sp_truth K n) (EW E) (dAt K "part" (dVar 0)) (tCons (dVar 1) (tNil))) (tNil)))
end S
-- fn: Opposite.truth
-- law: k40
-- dyn: truth
-- dynself: truth
-- deps: Qs opposite_truth
namespace S
open PySem PySem.Spec PyProof.Rows L2
theorem pure_Opposite_truth {K : Frag} (n : Nat) (vs : List V) (H : Hp) (Q : VK) (E : XK) (h : sp_truth K (n + 1) "Opposite" vs H Q E) : t_Opposite_truth K E n { nx := fun _ H' => Q .non H', rt := Q } (start ["self", "row"] vs) H := by
  obtain ⟨a, r, q, R, rfl, hc, hd, hq, hp, hr, hin, k⟩ := h
  cases q with
  | opp q =>
    obtain ⟨d, _, dx, p, b, ha, _, hb⟩ := hq
    have hd : q.dep + 1 ≤ n + 1 := hd
    walk_at "gx"
    refine Atr.df d ha rfl ?_
    refine hb.dyn (by decide) ⟨b, r, q, R, rfl, rfl, by omega, hb, hp, hr, hin, fun H1 e1 => ?_⟩
    exact ⟨_, rfl, k H1 e1⟩
  | _ => simp only [Qs.cls] at hc; exact absurd hc (by decide)
end S
namespace S
open PySem PySem.Spec PyProof.Rows L2
def t_Surely_truth (K : Frag) (E : XK) (n : Nat) : TS :=
    tRet (tOp oIsT (dDyn K csT "truth" (sp_truth K n) (EW E) (dAt K "part" (dVar 0)) (tCons (dVar 1) (tNil))) (tC (.bl true)))
end S
-- fn: Surely.truth
-- law: k40
-- dyn: truth
-- dynself: truth
-- deps: Qs 
namespace S
open PySem PySem.Spec PyProof.Rows L2
theorem pure_Surely_truth {K : Frag} (n : Nat) (vs : List V) (H : Hp) (Q : VK) (E : XK) (h : sp_truth K (n + 1) "Surely" vs H Q E) : t_Surely_truth K E n { nx := fun _ H' => Q .non H', rt := Q } (start ["self", "row"] vs) H := by
  obtain ⟨a, r, q, R, rfl, hc, hd, hq, hp, hr, hin, k⟩ := h
  cases q with
  | sure q =>
    obtain ⟨d, _, dx, p, b, ha, _, hb⟩ := hq
    have hd : q.dep + 1 ≤ n + 1 := hd
    walk_at "gx"
    refine Atr.df d ha rfl ?_
    refine hb.dyn (by decide) ⟨b, r, q, R, rfl, rfl, by omega, hb, hp, hr, hin, fun H1 e1 => ?_⟩
    have k := k H1 e1
    have k : Q (vT (ansS (ans R q))) H1 := k
    exact IsT.o k
  | _ => simp only [Qs.cls] at hc; exact absurd hc (by decide)
end S
namespace S
open PySem PySem.Spec PyProof.Rows L2
def t_Present_truth (K : Frag) (E : XK) (n : Nat) : TS :=
    tRet (tOp oNotN (tOp (oIxD K) (dVar 1) (dAt K "name" (dVar 0))) (tC .non))
end S
-- fn: Present.truth
-- law: k40
-- dynself: truth
-- dict: row
-- deps: Qs
namespace S
open PySem PySem.Spec PyProof.Rows L2
theorem pure_Present_truth {K : Frag} (n : Nat) (vs : List V) (H : Hp) (Q : VK) (E : XK) (h : sp_truth K (n + 1) "Present" vs H Q E) : t_Present_truth K E n { nx := fun _ H' => Q .non H', rt := Q } (start ["self", "row"] vs) H := by
  obtain ⟨a, r, q, R, rfl, hc, hd, hq, hp, hr, hin, k⟩ := h
  cases q with
  | prs z =>
    obtain ⟨d, _, dx, p, ha⟩ := hq
    obtain ⟨e, he⟩ := Option.isSome_iff_exists.mp (hin z rfl)
    have k := k H (Same.refl _)
    have k : Q (.bl (match lkR R z with | some (some _) => true | _ => false)) H := k
    walk_at "gx"
    refine Atr.df d ha rfl ?_
    refine DG.s hr (by rw [dkR_val, he]; rfl) ?_
    refine ⟨rfl, ?_⟩
    rw [he] at k
    cases e <;> exact k
  | _ => simp only [Qs.cls] at hc; exact absurd hc (by decide)
end S
namespace S
open PySem PySem.Spec PyProof.Rows L2
def t_HasBit_truth_1 (K : Frag) (E : XK) (n : Nat) : TS :=
    tRet (tOp (oEq K) (tOp oAnd (tOp oShr (tOp (oIxD K) (dVar 1) (dAt K "name" (dVar 0))) (dAt K "place" (dVar 0))) (tC (.int 1))) (tC (.int 1)))
def t_HasBit_truth (K : Frag) (E : XK) (n : Nat) : TS :=
    tSeq (dIfS (dCmpT oIsN (tOp (oIxD K) (dVar 1) (dAt K "name" (dVar 0))) (tC .non)) (tRet (tC .non)) (tNext))
    (stop (t_HasBit_truth_1 K E n))
end S
-- fn: HasBit.truth
-- law: k40
-- dynself: truth
-- dict: row
-- deps: Qs
namespace S
open PySem PySem.Spec PyProof.Rows L2
theorem pure_HasBit_truth {K : Frag} (n : Nat) (vs : List V) (H : Hp) (Q : VK) (E : XK) (h : sp_truth K (n + 1) "HasBit" vs H Q E) : t_HasBit_truth K E n { nx := fun _ H' => Q .non H', rt := Q } (start ["self", "row"] vs) H := by
  obtain ⟨a, r, q, R, rfl, hc, hd, hq, hp, hr, hin, k⟩ := h
  cases q with
  | bit z i =>
    obtain ⟨d, _, dx, p, ha⟩ := hq
    obtain ⟨e, he⟩ := Option.isSome_iff_exists.mp (hin z rfl)
    have hp : 0 ≤ i ∧ i ≤ 1000 := hp
    have k := k H (Same.refl _)
    have k : Q (vT (match lkR R z with | some (some v) => some (decide ((v / 2 ^ i.toNat) % 2 = 1)) | _ => none)) H := k
    rw [he] at k
    walk_at "gx"
    refine Atr.df d ha rfl ?_
    refine DG.s hr (by rw [dkR_val, he]; rfl) ?_
    cases e with
    | none =>
      refine ⟨rfl, ?_⟩
      exact k
    | some v =>
      refine ⟨rfl, ?_⟩
      refine ⟨?_⟩
      refine Atr.df d ha rfl ?_
      refine DG.s hr (by rw [dkR_val, he]; rfl) ?_
      refine Atr.df d ha rfl ?_
      refine Need.mk hp.1 ?_
      show Q (.bl (decide (Builtin.bitAnd (v / 2 ^ i.toNat) 1 = 1))) H
      rw [bitAnd_m1]
      exact k
  | _ => simp only [Qs.cls] at hc; exact absurd hc (by decide)
end S
-- deps: D0 D1
/-! ## comprehensions over a range whose items are made with draws; the list itself is told -/
namespace S
open PySem PySem.Spec PyProof.Rows L2
theorem lc_rngD {K : Frag} {a st : Addr} {m i : Nat} {te : TE} {vs : List Nat} {σ : L2.St} {H1 : Hp} {Q : VK} (R : Addr → Nat → V → Hp → Prop) (hz : m < sizeLine) (c : Ctx K H1 a st)
    (mono : ∀ D j y H H' l, D ≠ st → H D = some (.lst l) → R D j y H → SameX D H H' → R D j y H') (monoX : ∀ D j y H H', H1 D = none → R D j y H → Ctx K H a st → SameX st H H' → R D j y H')
    (hs : ∀ (D : Addr) (l : List V) (j : Nat) (H : Hp) (A : V → Hp → Prop), H1 D = none → H D = some (.lst l) → j < m → SameX st H1 H → Ctx K H a st → (∀ y H', SameX st H H' → Ctx K H' a st → R D j y H' → A y H') → wipe ((wipe σ vs).set i (some (.int j))) vs = wipe σ vs ∧ te ((wipe σ vs).set i (some (.int j))) H A)
    (hd : ∀ D ys H', H1 D = none → H' D = some (.lst ys) → ys.length = m → (∀ j y, ys[j]? = some y → R D j y H') → SameX st H1 H' → Ctx K H' a st → Q (.ref D) H') :
    Wr (LcGo (gName i) tYes te vs σ Q) (Itr 0 m) H1 := by
  refine ⟨fun D hD => ?_⟩
  have dst := ctx_ne c hD
  refine lc_range (lo := 0) (Qd := fun H => Q (.ref D) H) (fun j H => ∃ ys, H D = some (.lst ys) ∧ ys.length = j ∧ (∀ k y, ys[k]? = some y → R D k y H) ∧ SameX st H1 H ∧ Ctx K H a st) ⟨[], upd_same, rfl, fun k y h => by simp at h, Same.x (same_new hD), c.same (same_new hD)⟩ ?_ ?_
  · rintro j H hj ⟨ys, h1, h2, h3, e, cc⟩
    obtain ⟨w, q⟩ := hs D ys j H (fun y H4 => ∃ acc, H4 D = some (.lst acc) ∧ acc.length < sizeLine ∧ ∃ ys, upd H4 D (.lst (acc ++ [y])) D = some (.lst ys) ∧ ys.length = j + 1 ∧ (∀ k y', ys[k]? = some y' → R D k y' (upd H4 D (.lst (acc ++ [y])))) ∧ SameX st H1 (upd H4 D (.lst (acc ++ [y]))) ∧ Ctx K (upd H4 D (.lst (acc ++ [y]))) a st) hD h1 hj e cc fun y H' e2 c2 r => by
      have hDH := e2 _ _ h1 dst
      have si : SameX D H' (L2.upd H' D (.lst (ys ++ [y]))) := SameX.upd
      refine ⟨ys, hDH, by omega, ys ++ [y], upd_same, by rw [List.length_append, List.length_singleton, h2], fun k y' hk => ?_, SameX.mut (e.trans e2) hD, c2.mut c hD⟩
      by_cases hkj : k < ys.length
      · rw [List.getElem?_append_left hkj] at hk
        exact mono _ _ _ _ _ _ dst hDH (monoX _ _ _ _ _ hD (h3 k y' hk) cc e2) si
      · have hk2 : k < ys.length + 1 := by
          obtain ⟨h, _⟩ := List.getElem?_eq_some_iff.mp hk
          rw [List.length_append, List.length_singleton] at h; exact h
        have ek : k = j := by omega
        subst ek
        rw [List.getElem?_append_right (by omega), h2, Nat.sub_self] at hk
        have ey : y = y' := by simpa using hk
        rw [← ey]
        exact mono _ _ _ _ _ _ dst hDH r si
    show gName i (.int (0 + (j : Int))) (wipe σ vs) H _
    rw [Int.zero_add]
    refine ⟨w, ?_⟩
    unfold tYes
    dsimp only
    rw [if_pos rfl]
    exact q
  · rintro H ⟨ys, h1, h2, h3, e, cc⟩
    exact hd D ys H hD h1 h2 h3 e cc
end S
-- deps: D0 D1
/-! ## comprehensions over range(lo, hi); over a list, drawn -/
namespace S
open PySem PySem.Spec PyProof.Rows L2
/-- over a list that stays, its items drawn -/
theorem lc_lstX {K : Frag} {a st p : Addr} {xs : List V} {i : Nat} {te : TE} {vs : List Nat} {σ : L2.St} {H1 : Hp} {Q : VK} (R : Addr → Nat → V → Hp → Prop) (hx : H1 p = some (.lst xs)) (pst : p ≠ st) (hz : xs.length < sizeLine) (c : Ctx K H1 a st)
    (mono : ∀ D j y H H' l, D ≠ st → H D = some (.lst l) → R D j y H → SameX D H H' → R D j y H') (monoX : ∀ D j y H H', H1 D = none → R D j y H → Ctx K H a st → SameX st H H' → R D j y H')
    (hs : ∀ (D : Addr) (l : List V) (j : Nat) (x : V) (H : Hp) (A : V → Hp → Prop), H1 D = none → H D = some (.lst l) → xs[j]? = some x → SameX st H1 H → Ctx K H a st → (∀ y H', SameX st H H' → Ctx K H' a st → R D j y H' → A y H') → wipe ((wipe σ vs).set i (some x)) vs = wipe σ vs ∧ te ((wipe σ vs).set i (some x)) H A)
    (hd : ∀ D ys H', H1 D = none → H' D = some (.lst ys) → ys.length = xs.length → (∀ j y, ys[j]? = some y → R D j y H') → SameX st H1 H' → Ctx K H' a st → Q (.ref D) H') :
    Walk K H1 p (Wr (LcGo (gName i) tYes te vs σ Q)) := by
  refine ⟨.inl ⟨⟨xs, SqL.of hx⟩, ⟨fun D hD => ?_⟩⟩⟩
  have dst := ctx_ne c hD
  have pD : p ≠ D := ne_of_none hx hD
  refine lc_list (Qd := fun H => Q (.ref D) H) (xs := xs) (fun j H => ∃ ys, H D = some (.lst ys) ∧ ys.length = j ∧ (∀ k y, ys[k]? = some y → R D k y H) ∧ SameX st H1 H ∧ Ctx K H a st) ⟨[], upd_same, rfl, fun k y h => by simp at h, Same.x (same_new hD), c.same (same_new hD)⟩ (fun j H hj ⟨_, _, _, _, e, _⟩ => SqL.of (e _ _ hx pst)) ?_ ?_
  · rintro j x H hj ⟨ys, h1, h2, h3, e, cc⟩
    have jl : j < xs.length := (List.getElem?_eq_some_iff.mp hj).1
    obtain ⟨w, q⟩ := hs D ys j x H (fun y H4 => ∃ acc, H4 D = some (.lst acc) ∧ acc.length < sizeLine ∧ ∃ ys, upd H4 D (.lst (acc ++ [y])) D = some (.lst ys) ∧ ys.length = j + 1 ∧ (∀ k y', ys[k]? = some y' → R D k y' (upd H4 D (.lst (acc ++ [y])))) ∧ SameX st H1 (upd H4 D (.lst (acc ++ [y]))) ∧ Ctx K (upd H4 D (.lst (acc ++ [y]))) a st) hD h1 hj e cc fun y H' e2 c2 r => by
      have si : SameX D H' (L2.upd H' D (.lst (ys ++ [y]))) := SameX.upd
      have hDH := e2 _ _ h1 dst
      refine ⟨ys, hDH, by omega, ys ++ [y], upd_same, by rw [List.length_append, List.length_singleton, h2], fun k y' hk => ?_, SameX.mut (e.trans e2) hD, c2.mut c hD⟩
      by_cases hkj : k < ys.length
      · rw [List.getElem?_append_left hkj] at hk
        exact mono _ _ _ _ _ _ dst hDH (monoX _ _ _ _ _ hD (h3 k y' hk) cc e2) si
      · have hk2 : k < ys.length + 1 := by
          obtain ⟨h, _⟩ := List.getElem?_eq_some_iff.mp hk
          rw [List.length_append, List.length_singleton] at h; exact h
        have ek : k = j := by omega
        subst ek
        rw [List.getElem?_append_right (by omega), h2, Nat.sub_self] at hk
        have ey : y = y' := by simpa using hk
        rw [← ey]
        exact mono _ _ _ _ _ _ dst hDH r si
    refine ⟨w, ?_⟩
    unfold tYes
    dsimp only
    rw [if_pos rfl]
    exact q
  · rintro H ⟨ys, h1, h2, h3, e, cc⟩
    exact hd D ys H hD h1 h2 h3 e cc
end S
namespace S
open PySem PySem.Spec PyProof.Rows L2
def t_law_12 (K : Frag) (E : XK) : TS :=
    tRet (dCall (sp__law_chain K) (EW E) (tCons (dCall (sp__law_joined K) (EW E) (tCons (dVar 7) (tCons (tC (.bl false)) (tNil)))) (tCons (dVar 6) (tCons (tC (.bl false)) (tNil)))))
def t_law_11 (K : Frag) (E : XK) : TS :=
    tSeq (dIfS (dNot (dTest K (dCall (sp__law_chain K) (EW E) (tCons (dCall (sp__law_joined K) (EW E) (tCons (dVar 7) (tCons (tC (.bl true)) (tNil)))) (tCons (dVar 6) (tCons (tC (.bl true)) (tNil))))))) (tRet (tC (.bl false))) (tNext))
    (stop (t_law_12 K E))
def t_law_10 (K : Frag) (E : XK) : TS :=
    tSeq (dIfS (dAnd (dCmpT oGt (tCB (cLen K) (tCons (dVar 7) (tNil))) (tC (.int 1))) (dCmpT (oEq K) (dCall (sp__law_draw K) (EW E) (tCons (dVar 0) (tCons (dVar 1) (tCons (tC (.int 3)) (tNil))))) (tC (.int 1)))) (tSeq (tAsg (tOp (oIx K) (dVar 6) (tC (.int 0))) (gSub (dVar 6) (tUn uNeg (tC (.int 1))) oSet))
    (tAsg (tOp (oIx K) (dVar 7) (tC (.int 0))) (gSub (dVar 7) (tUn uNeg (tC (.int 1))) oSet))) (tNext))
    (stop (t_law_11 K E))
def t_law_9 (K : Frag) (E : XK) : TS :=
    tSeq (tAsg (dLc (iSeq K (dVar 6)) (gName 9) (tYes) (dCall (sp__law_question K) (EW E0) (tCons (dLst (tCons (dVar 9) (tNil))) (tNil))) [9]) (gName 7))
    (stop (t_law_10 K E))
def t_law_8 (K : Frag) (E : XK) : TS :=
    tSeq (tAsg (dLc (iRng (tCons (dCall (sp__law_draw K) (EW E) (tCons (dVar 0) (tCons (dVar 1) (tCons (tC (.int 5)) (tNil))))) (tNil))) (gName 8) (tYes) (dCall (sp__law_leaf K) (EW E0) (tCons (dVar 0) (tCons (dVar 1) (tCons (dVar 2) (tNil))))) [8]) (gName 6))
    (stop (t_law_9 K E))
def t_law_7 (K : Frag) (E : XK) : TS :=
    tSeq (dIfS (dCmpT (oNe K) (dDyn0 K csT "names" (sp_names K nT) (EW E) (dVar 4)) (dCall (sp__law_named K) (EW E) (tCons (dVar 3) (tNil)))) (tRet (tC (.bl false))) (tNext))
    (stop (t_law_8 K E))
def t_law_6 (K : Frag) (E : XK) : TS :=
    tSeq (tDrop (dML K mApp (dVar 5) (tCons (tC (.str "?")) (tNil))))
    (stop (t_law_7 K E))
def t_law_5 (K : Frag) (E : XK) : TS :=
    tSeq (dIfS (dOr (dNot (dTest K (tCB (cIsi K) (tCons (dVar 5) (tCons (tC (.ty "list")) (tNil)))))) (dCmpT (oNe K) (dVar 5) (dCall (sp__law_named K) (EW E) (tCons (dVar 3) (tNil))))) (tRet (tC (.bl false))) (tNext))
    (stop (t_law_6 K E))
def t_law_4 (K : Frag) (E : XK) : TS :=
    tSeq (tAsg (dDyn0 K csT "names" (sp_names K nT) (EW E) (dVar 4)) (gName 5))
    (stop (t_law_5 K E))
def t_law_3 (K : Frag) (E : XK) : TS :=
    tSeq (tAsg (dCall (sp__law_question K) (EW E) (tCons (dVar 3) (tNil))) (gName 4))
    (stop (t_law_4 K E))
def t_law_2 (K : Frag) (E : XK) : TS :=
    tSeq (tAsg (dCall (sp__law_recipe K) (EW E) (tCons (dVar 0) (tCons (dVar 1) (tCons (dVar 2) (tCons (tC (.int 12)) (tNil)))))) (gName 3))
    (stop (t_law_3 K E))
def t_law_1 (K : Frag) (E : XK) : TS :=
    tSeq (tAsg (dCall (sp__law_columns K) (EW E) (tCons (dVar 0) (tCons (dVar 1) (tCons (tC (.int 20)) (tNil))))) (gName 2))
    (stop (t_law_2 K E))
def t_law (K : Frag) (E : XK) : TS :=
    tSeq (tAsg (dLst (tCons (tC (.int 0)) (tCons (tC (.int 0)) (tCons (tC (.int 0)) (tCons (tC (.int 0)) (tNil)))))) (gName 1))
    (stop (t_law_1 K E))
end S
-- fn: law
-- law: k41
-- dyn: names
-- csT: AtMost Present HasBit Both Either Opposite Surely
-- nT: 12
-- deps: _law_named _law_chain_k41 _law_joined_k41 _law_columns _law_leaf _law_recipe _law_question leaf_names Question_names AtMost_truth Both_truth Either_truth Opposite_truth Surely_truth Present_truth HasBit_truth Lrd Lri D0 D1 CsT
open PySem PySem.Spec PyProof.Rows L2 S in
local macro_rules | `(tactic| walk_at "sp") => `(tactic| dsimp only [dVar, S.nth, S.onSome, tCons, tNil, tC, dCall, List.set, tSeq, dIfS, dCmpT, tAsg, tRet, tOp, gName, dNot, dTest, dOr])
namespace S
open PySem PySem.Spec PyProof.Rows L2
def s41 (a st p r qa fl lv pl : Addr) (x8 x9 : Option V) : L2.St := [some (.ref a), some (.ref st), some (.ref p), some (.ref r), some (.ref qa), some (.ref fl), some (.ref lv), some (.ref pl), x8, x9]
/-- the leaves and their questions -/
structure P41 (K : Frag) (B W : Hp) (lv pl : Addr) (ls as : List Addr) (ss : List Stp) (L : List Str) : Prop where
  hl : W lv = some (.lst (ls.map V.ref))
  hp : W pl = some (.lst (as.map V.ref))
  hS : Paired (fun s x => StA K B W x s) ss ls
  hQ : Paired (fun s a => QA K W a (lfQ s)) ss as
  l4 : ss.length ≤ 4
  lf : ∀ s ∈ ss, s.leaf L
  ok : ∀ z ∈ L, PyData.strOk z = true
  lL : L.length ≤ 60
section
variable {K : Frag} {E : XK} {D : L2.Ends} {B W W' : Hp} {a st p r qa fl lv pl : Addr} {ls as : List Addr} {ss : List Stp} {L : List Str} {x8 x9 : Option V}
theorem P41.same (P : P41 K B W lv pl ls as ss L) (e : Same W W') : P41 K B W' lv pl ls as ss L :=
  ⟨e _ _ P.hl, e _ _ P.hp, Paired.mapP P.hS fun _ _ h => h.same e, Paired.mapP P.hQ fun _ _ h => h.same e, P.l4, P.lf, P.ok, P.lL⟩
theorem P41.q (P : P41 K B W lv pl ls as ss L) : Paired (fun q a => QA K W a q) (ss.map lfQ) as := by
  have gen : ∀ {ss : List Stp} {as : List Addr}, Paired (fun s a => QA K W a (lfQ s)) ss as → Paired (fun q a => QA K W a q) (ss.map lfQ) as := by
    intro ss as h
    induction h with
    | nil => exact .nil
    | cons h _ ih => exact .cons h ih
  exact gen P.hQ
theorem icA : inC "AtMost" := by unfold inC csT; decide
theorem icB41 : inC "Both" := by unfold inC csT; decide
theorem icE41 : inC "Either" := by unfold inC csT; decide
/-- the two chains -/
theorem k41_11 (P : P41 K B W lv pl ls as ss L) (k : ∀ H', D.rt (.bl true) H') : t_law_11 K E D (s41 a st p r qa fl lv pl x8 x9) W := by
  have l4 : as.length ≤ 4 := by rw [← P.hQ.length]; exact P.l4
  unfold s41
  walk_at "gx"
  refine ⟨pl, as, ss.map lfQ, true, rfl, icA, icB41, icE41, P.hp, l4, P.q, fun y W1 e1 hy => ?_⟩
  have P1 := P.same e1
  walk_at "gx"
  refine ⟨B, y, lv, ls, ss, L, true, rfl, by show 12 ≤ nT; decide, P1.hl, P1.hS, hy, P.l4, P.lf, P.ok, P.lL, fun W2 e2 => ?_⟩
  have P2 := P1.same e2
  try dsimp only [bIf, isB, Bool.not_true]
  walk_at "gx"
  refine ⟨pl, as, ss.map lfQ, false, rfl, icA, icB41, icE41, P2.hp, l4, P2.q, fun y W3 e3 hy => ?_⟩
  have P3 := P2.same e3
  walk_at "gx"
  refine ⟨B, y, lv, ls, ss, L, false, rfl, by show 12 ≤ nT; decide, P3.hl, P3.hS, hy, P.l4, P.lf, P.ok, P.lL, fun W4 e4 => ?_⟩
  exact k W4
theorem P41.x {t : Addr} {l0 : List V} {o : HO} (P : P41 K B W lv pl ls as ss L) (e : SameX t W W') (ht : W t = some (.lst l0)) (bt : B t = some o) (n1 : lv ≠ t) (n2 : pl ≠ t) : P41 K B W' lv pl ls as ss L :=
  ⟨e _ _ P.hl n1, e _ _ P.hp n2, Paired.mapP P.hS fun _ _ h => h.x e ht bt, Paired.mapP P.hQ fun _ _ h => QA.x e ht h, P.l4, P.lf, P.ok, P.lL⟩
theorem snoc_of {α : Type} {xs : List α} (h : 1 ≤ xs.length) : ∃ ys y, xs = ys ++ [y] := by
  induction xs with
  | nil => simp at h
  | cons x xs ih =>
    cases xs with
    | nil => exact ⟨[], x, rfl⟩
    | cons x2 xs =>
      obtain ⟨ys, y, e⟩ := ih (by simp)
      exact ⟨x :: ys, y, by rw [e]; rfl⟩
theorem prC_L {α β : Type} {P : α → β → Prop} : ∀ {xs : List α} {ys : List β}, Paired P xs ys → ∀ {zs : List α} {x : α}, xs = zs ++ [x] → ∃ ws y, ys = ws ++ [y] ∧ Paired P zs ws ∧ P x y
  | _, _, h, zs, x, e => by subst e; exact pr_snocL h
/-- the last is the first -/
theorem k41_10 (P : P41 K B W lv pl ls as ss L) (c : Ctx K W a st) (bst : ∃ o, B st = some o) (bl : ∃ o, B lv = some o) (bp : ∃ o, B pl = some o) (n1 : lv ≠ st) (n2 : pl ≠ st) (n3 : lv ≠ pl) (k : ∀ H', D.rt (.bl true) H') : t_law_10 K E D (s41 a st p r qa fl lv pl x8 x9) W := by
  obtain ⟨ob, bst⟩ := bst
  obtain ⟨ol, bl⟩ := bl
  obtain ⟨op, bp⟩ := bp
  have l4 := P.l4
  have las : ss.length = as.length := P.hQ.length
  have hp := P.hp
  unfold s41
  walk_at "gx"
  refine ifd (fun h2 => ?_) (fun _ => ?_)
  rotate_left
  · show stop (t_law_11 K E) D _ W
    exact ⟨k41_11 P k⟩
  rw [List.length_map] at h2
  walk_at "gx"
  refine ⟨a, st, _, rfl, c, by decide, fun d5 Y _ _ cY eY => ?_⟩
  obtain ⟨l0, hst⟩ := ctx_st c
  have PY := P.x eY hst bst n1 n2
  refine ifd (fun _ => ?_) (fun _ => ?_)
  rotate_left
  · show stop (t_law_11 K E) D _ Y
    exact ⟨k41_11 PY k⟩
  obtain ⟨ss0, sl, es⟩ := snoc_of (xs := ss) (by omega)
  obtain ⟨ls0, yl, el, hS0, hSl⟩ := prC_L PY.hS es
  obtain ⟨as0, al, ea, hQ0, hQl⟩ := prC_L PY.hQ es
  subst es el ea
  have l0s : 1 ≤ ss0.length := by rw [List.length_append, List.length_singleton] at las; rw [List.length_append, List.length_singleton] at h2; have := hQ0.length; omega
  obtain ⟨s0, hs0⟩ : ∃ s, ss0[0]? = some s := ⟨_, List.getElem?_eq_getElem (by omega)⟩
  obtain ⟨y0, hy0, hA0⟩ := prC_at hS0 hs0
  obtain ⟨a0, ha0, hq0⟩ := prC_at hQ0 hs0
  have hlY : Y lv = some (.lst (ls0.map V.ref ++ [.ref yl])) := by rw [PY.hl, List.map_append]; rfl
  have hpY : Y pl = some (.lst (as0.map V.ref ++ [.ref al])) := by rw [PY.hp, List.map_append]; rfl
  have b1 : L2.atI (ls0.map V.ref ++ [.ref yl]) 0 = some (.ref y0) := L2.atI_nat (j := 0) (by rw [List.getElem?_append_left (by rw [List.length_map]; have := (List.getElem?_eq_some_iff.mp hy0).1; omega), List.getElem?_map, hy0]; rfl)
  have b2 : L2.atI (as0.map V.ref ++ [.ref al]) 0 = some (.ref a0) := L2.atI_nat (j := 0) (by rw [List.getElem?_append_left (by rw [List.length_map]; have := (List.getElem?_eq_some_iff.mp ha0).1; omega), List.getElem?_map, ha0]; rfl)
  walk_at "gx"
  refine Pl.of (ixN_last _ _) ?_
  rw [set_lastV]
  have x1 : SameX lv Y (upd Y lv (.lst (ls0.map V.ref ++ [.ref y0]))) := SameX.upd
  have hl1 : upd Y lv (.lst (ls0.map V.ref ++ [.ref y0])) lv = some (.lst ((ls0 ++ [y0]).map V.ref)) := by rw [upd_same, List.map_append]; rfl
  have hp1 := x1 _ _ hpY n3.symm
  generalize upd Y lv (.lst (ls0.map V.ref ++ [.ref y0])) = Y1 at *
  walk_at "gx"
  refine Pl.of (ixN_last _ _) ?_
  rw [set_lastV]
  have x2 : SameX pl Y1 (upd Y1 pl (.lst (as0.map V.ref ++ [.ref a0]))) := SameX.upd
  have hp2 : upd Y1 pl (.lst (as0.map V.ref ++ [.ref a0])) pl = some (.lst ((as0 ++ [a0]).map V.ref)) := by rw [upd_same, List.map_append]; rfl
  have hl2 := x2 _ _ hl1 n3
  have P2 : P41 K B (upd Y1 pl (.lst (as0.map V.ref ++ [.ref a0]))) lv pl (ls0 ++ [y0]) (as0 ++ [a0]) (ss0 ++ [s0]) L := ⟨hl2, hp2, ?_, ?_, ?_, ?_, P.ok, P.lL⟩
  · show stop (t_law_11 K E) D _ _
    exact ⟨k41_11 P2 k⟩
  · exact Paired.snoc (Paired.mapP hS0 fun _ _ h => (h.x x1 hlY bl).x x2 hp1 bp) ((hA0.x x1 hlY bl).x x2 hp1 bp)
  · exact Paired.snoc (Paired.mapP hQ0 fun _ _ h => QA.x x2 hp1 (QA.x x1 hlY h)) (QA.x x2 hp1 (QA.x x1 hlY hq0))
  · rw [List.length_append, List.length_singleton] at l4 ⊢; exact l4
  · intro s hs
    rcases List.mem_append.mp hs with h | h
    · exact P.lf s (List.mem_append_left _ h)
    · rw [List.mem_singleton.mp h]; exact P.lf s0 (List.mem_append_left _ (List.mem_of_getElem? hs0))
theorem list_ofC {α β : Type} {P : Nat → α → β → Prop} : ∀ {ys : List β}, (∀ j y, ys[j]? = some y → ∃ x, P j x y) → ∃ xs : List α, xs.length = ys.length ∧ ∀ j y, ys[j]? = some y → ∃ x, xs[j]? = some x ∧ P j x y := by
  intro ys h
  induction ys generalizing P with
  | nil => exact ⟨[], rfl, fun j y h => by simp at h⟩
  | cons y ys ih =>
    obtain ⟨x, hx⟩ := h 0 y rfl
    obtain ⟨xs, l, g⟩ := ih (P := fun j => P (j + 1)) fun j y hj => h (j + 1) y (by rw [List.getElem?_cons_succ]; exact hj)
    refine ⟨x :: xs, by rw [List.length_cons, List.length_cons, l], fun j w hj => ?_⟩
    cases j with
    | zero =>
      rw [List.getElem?_cons_zero] at hj
      cases hj
      exact ⟨x, rfl, hx⟩
    | succ j =>
      rw [List.getElem?_cons_succ] at hj
      obtain ⟨x', h1, h2⟩ := g j w hj
      exact ⟨x', by rw [List.getElem?_cons_succ]; exact h1, h2⟩
/-- pairs of equal length by their places -/
theorem paired_by {α β : Type} {P : α → β → Prop} : ∀ {xs : List α} {ys : List β}, xs.length = ys.length → (∀ (j : Nat) (x : α) (y : β), xs[j]? = some x → ys[j]? = some y → P x y) → Paired P xs ys
  | [], [], _, _ => .nil
  | [], _ :: _, h, _ => by simp at h
  | _ :: _, [], h, _ => by simp at h
  | x :: xs, y :: ys, h, g => .cons (g 0 x y rfl rfl) (paired_by (by simpa using h) fun j u v hu hv => g (j + 1) u v (by rw [List.getElem?_cons_succ]; exact hu) (by rw [List.getElem?_cons_succ]; exact hv))
/-- another list is no own list of a step -/
theorem StA.up {K : Frag} {B H : Hp} {x t : Addr} {s : Stp} {o : HO} (h : StA K B H x s) (nt : H t = none) : StA K (upd B t o) H x s := by
  cases s <;> first | exact h | (obtain ⟨l, ys, h1, hl, h2⟩ := h; exact ⟨l, ys, h1, by rw [upd_ne (fun e => by subst e; rw [h2.1] at nt; cases nt)]; exact hl, h2⟩)
theorem leafA {s : Stp} {L : List Str} (h : s.leaf L) : okR [s] 0 = some 1 ∧ runQ lfQ [s] [] = [lfQ s] := by
  cases s <;> first | exact ⟨rfl, rfl⟩ | exact h.elim
/-- the leaves' questions -/
theorem k41_9 {B : Hp} {o1 o2 : HO} (c : Ctx K W a st) (hl : W lv = some (.lst (ls.map V.ref))) (n1 : lv ≠ st) (hS : Paired (fun s x => StA K B W x s) ss ls) (bst : B st = some o1) (bl : B lv = some o2) (l4 : ss.length ≤ 4) (lf : ∀ s ∈ ss, s.leaf L) (ok : ∀ z ∈ L, PyData.strOk z = true) (lL : L.length ≤ 60) (k : ∀ H', D.rt (.bl true) H') :
    t_law_9 K E D [some (.ref a), some (.ref st), some (.ref p), some (.ref r), some (.ref qa), some (.ref fl), some (.ref lv), none, x8, x9] W := by
  have lS := hS.length
  obtain ⟨l0, hst⟩ := ctx_st c
  walk_at "gx"
  refine lc_lstX (K := K) (a := a) (st := st) (fun D0 j y W' => ∃ (s : Stp) (q : Addr), ss[j]? = some s ∧ y = .ref q ∧ QA K W' q (lfQ s)) hl n1 (by rw [List.length_map, sizeLine_eq]; omega) c (fun D0 j y H H' l _ hD ⟨s, q, h1, h2, h3⟩ ex => ⟨s, q, h1, h2, QA.x ex hD h3⟩) (fun D0 j y H H' _ ⟨s, q, h1, h2, h3⟩ cc ex => let ⟨l, hst⟩ := ctx_st cc; ⟨s, q, h1, h2, QA.x ex hst h3⟩) ?_ ?_
  · intro D0 l j x Y A nD hD hx e cc hA
    rw [List.getElem?_map] at hx
    obtain ⟨y, hy, rfl⟩ := Option.map_eq_some_iff.mp hx
    obtain ⟨s, hs, hAs⟩ := pr_atL hS hy
    have hAs := hAs.x e hst bst
    have lfs := lf s (List.mem_of_getElem? hs)
    refine ⟨rfl, ?_⟩
    walk_at "gx"
    refine ⟨fun q1 nq1 => ?_⟩
    have e1 := same_new (o := .lst [.ref y]) nq1
    have hq1 : upd Y q1 (.lst [.ref y]) q1 = some (.lst ([y].map V.ref)) := upd_same
    generalize upd Y q1 (.lst [.ref y]) = Y1 at *
    try dsimp only [tNil]
    refine ⟨B, q1, [y], [s], L, rfl, ⟨icA, by unfold inC csT; decide, by unfold inC csT; decide, icB41, icE41, by unfold inC csT; decide, by unfold inC csT; decide⟩, hq1, .cons (hAs.same e1) .nil, (leafA lfs).1, by simp, fun t ht _ => by rw [List.mem_singleton.mp ht]; exact lfs, lL, fun qx q0 H5 hq0 e5 hqx => ?_⟩
    rw [(leafA lfs).2] at hq0
    cases hq0
    have e15 := e1.trans e5
    exact hA _ H5 (Same.x e15) (cc.same e15) ⟨s, qx, hs, rfl, hqx⟩
  · intro pl vs W1 npl hpl lvs hvs e1 c1
    rw [List.length_map] at lvs
    obtain ⟨qs, lq, hq⟩ := list_ofC (P := fun j (q : Addr) y => ∃ s, ss[j]? = some s ∧ y = V.ref q ∧ QA K W1 q (lfQ s)) fun j y hj => let ⟨s, q, h⟩ := hvs j y hj; ⟨q, s, h⟩
    have ev : vs = qs.map V.ref := List.ext_getElem? fun j => by
      rw [List.getElem?_map]
      cases h : vs[j]? with
      | none => rw [List.getElem?_eq_none (by rw [lq]; exact List.getElem?_eq_none_iff.mp h)]; rfl
      | some y =>
        obtain ⟨x, h1, s, _, h2, _⟩ := hq j y h
        rw [h1, h2]; rfl
    have hQ : Paired (fun s q => QA K W1 q (lfQ s)) ss qs := paired_by (by omega) fun j s q h1 h2 => by
      obtain ⟨y, hy⟩ : ∃ y, vs[j]? = some y := ⟨_, List.getElem?_eq_getElem (by have := (List.getElem?_eq_some_iff.mp h2).1; omega)⟩
      obtain ⟨q', g1, s', g2, _, g3⟩ := hq j y hy
      rw [h2] at g1
      rw [h1] at g2
      cases g1
      cases g2
      exact g3
    have pst := ctx_ne c npl
    have lvp : lv ≠ pl := fun h => by subst h; rw [hl] at npl; cases npl
    obtain ⟨l1, hst1⟩ := ctx_st c1
    have P : P41 K (upd B pl (.lst [])) W1 lv pl ls qs ss L := ⟨e1 _ _ hl n1, by rw [hpl, ev], Paired.mapP hS fun _ _ h => (h.up npl).x e1 hst (o := o1) (by rw [upd_ne pst.symm]; exact bst), hQ, l4, lf, ok, lL⟩
    walk_at "go"
    exact ⟨k41_10 P c1 ⟨o1, by rw [upd_ne pst.symm]; exact bst⟩ ⟨o2, by rw [upd_ne lvp]; exact bl⟩ ⟨_, upd_same⟩ n1 pst lvp k⟩
/-- the leaves -/
theorem k41_8 {V0 : Hp} {ys : List V} {cs : List Col} (c : Ctx K V0 a st) (hp : V0 p = some (.lst ys)) (pst : p ≠ st) (hC : Cols K V0 ys cs) (lc : cs.length ≤ 3) (nd : (cs.map fun c => c.1).Nodup) (w : ∀ c ∈ cs, 1 ≤ c.2 ∧ c.2 ≤ 100) (ok : ∀ z ∈ cs.map (fun c => c.1), PyData.strOk z = true) (k : ∀ H', D.rt (.bl true) H') :
    t_law_8 K E D [some (.ref a), some (.ref st), some (.ref p), some (.ref r), some (.ref qa), some (.ref fl), none, none, none, none] V0 := by
  walk_at "gx"
  refine ⟨a, st, _, rfl, c, by decide, fun d V1 d0 d1 c1 e1 => ?_⟩
  obtain ⟨m, rfl⟩ : ∃ m : Nat, d = m := ⟨d.toNat, by omega⟩
  have d1 : (m : Int) < 5 := d1
  obtain ⟨l0, hst0⟩ := ctx_st c
  obtain ⟨l1, hst1⟩ := ctx_st c1
  have hp1 := e1 _ _ hp pst
  have hC1 := hC.x e1 hst0
  walk_at "gx"
  show Wr _ (Itr 0 ((m : Nat) : Int).toNat) V1
  rw [Int.toNat_natCast]
  refine lc_rngD (K := K) (a := a) (st := st) (fun D0 j y W => ∃ (B : Hp) (x : Addr) (s : Stp), y = .ref x ∧ StA K B W x s ∧ s.leaf (cs.map fun c => c.1) ∧ (∃ o, B D0 = some o) ∧ (∃ o, B st = some o) ∧ SameX st V1 B) (by rw [sizeLine_eq]; omega) c1 ?_ ?_ ?_ ?_
  · rintro D0 j y H H' l _ hD ⟨B, x, s, h1, h2, h3, ⟨o, h4⟩, h5, h6⟩ ex
    exact ⟨B, x, s, h1, h2.x ex hD h4, h3, ⟨o, h4⟩, h5, h6⟩
  · rintro D0 j y H H' _ ⟨B, x, s, h1, h2, h3, h4, ⟨o, h5⟩, h6⟩ cc ex
    obtain ⟨l, hst⟩ := ctx_st cc
    exact ⟨B, x, s, h1, h2.x ex hst h5, h3, h4, ⟨o, h5⟩, h6⟩
  · intro D0 l j Y A nD hD hj e cc hA
    refine ⟨rfl, ?_⟩
    walk_at "gx"
    obtain ⟨l2, hst2⟩ := ctx_st cc
    refine ⟨a, st, p, ys, cs, rfl, cc, e _ _ hp1 pst, pst, hC1.x e hst1, by omega, nd, w, fun x s H' h1 h2 c' e' => ?_⟩
    exact hA _ H' e' c' ⟨Y, x, s, rfl, h1, h2.1, ⟨_, hD⟩, ⟨_, hst2⟩, e⟩
  · intro lv vs W1 nlv hlv lvs hvs e2 c2
    obtain ⟨xs, lx, hx⟩ := list_ofC (P := fun _ (t : Addr × Stp) y => y = V.ref t.1 ∧ t.2.leaf (cs.map fun c => c.1) ∧ ∃ B, StA K B W1 t.1 t.2 ∧ (∃ o, B lv = some o) ∧ (∃ o, B st = some o) ∧ SameX st V1 B) fun j y hj => let ⟨B, x, s, h1, h2, h3, h4, h5, h6⟩ := hvs j y hj; ⟨(x, s), h1, h3, B, h2, h4, h5, h6⟩
    have ev : vs = (xs.map (·.1)).map V.ref := List.ext_getElem? fun j => by
      rw [List.getElem?_map, List.getElem?_map]
      cases h : vs[j]? with
      | none => rw [List.getElem?_eq_none (by rw [lx]; exact List.getElem?_eq_none_iff.mp h)]; rfl
      | some y =>
        obtain ⟨x, h1, h2, _⟩ := hx j y h
        rw [h1, h2]; rfl
    have hx2 : ∀ t ∈ xs, t.2.leaf (cs.map fun c => c.1) ∧ StA K (upd V1 lv (.lst [])) W1 t.1 t.2 := fun t ht => by
      obtain ⟨j, hj⟩ := List.mem_iff_getElem?.mp ht
      obtain ⟨y, hy⟩ : ∃ y, vs[j]? = some y := ⟨_, List.getElem?_eq_getElem (by have := (List.getElem?_eq_some_iff.mp hj).1; omega)⟩
      obtain ⟨t', h1, _, h3, B, h4, ⟨o1, h5⟩, ⟨o2, h6⟩, h7⟩ := hx j y hy
      rw [hj] at h1
      cases h1
      refine ⟨h3, h4.older fun l hl => ?_⟩
      by_cases z : l = lv
      · subst z; rw [h5] at hl; cases hl
      · rw [upd_ne z]
        cases h : V1 l with
        | none => rfl
        | some o =>
          by_cases z2 : l = st
          · subst z2; rw [h6] at hl; cases hl
          · rw [h7 _ _ h z2] at hl; cases hl
    have lst := ctx_ne c1 nlv
    have hS : Paired (fun s x => StA K (upd V1 lv (.lst [])) W1 x s) (xs.map (·.2)) (xs.map (·.1)) := by
      have gen : ∀ zs : List (Addr × Stp), (∀ t ∈ zs, StA K (upd V1 lv (.lst [])) W1 t.1 t.2) → Paired (fun s x => StA K (upd V1 lv (.lst [])) W1 x s) (zs.map (·.2)) (zs.map (·.1)) := by
        intro zs h
        induction zs with
        | nil => exact .nil
        | cons z zs ih => exact .cons (h z List.mem_cons_self) (ih fun t ht => h t (List.mem_cons_of_mem _ ht))
      exact gen xs fun t ht => (hx2 t ht).2
    walk_at "go"
    refine ⟨k41_9 (ls := xs.map (·.1)) (ss := xs.map (·.2)) (L := cs.map fun c => c.1) (o1 := .lst l1) (o2 := .lst []) c2 (by rw [hlv, ev]) lst hS (by rw [upd_ne lst.symm]; exact hst1) upd_same (by rw [List.length_map]; omega) (fun s hs => ?_) ok (by rw [List.length_map]; omega) k⟩
    obtain ⟨t, ht, rfl⟩ := List.mem_map.mp hs
    exact (hx2 t ht).1
/-- the names, twice -/
theorem k41_4 {V0 : Hp} {ys : List V} {cs : List Col} {xs : List Addr} {q : Qs} (c : Ctx K V0 a st) (hp : V0 p = some (.lst ys)) (pst : p ≠ st) (hC : Cols K V0 ys cs) (lc : cs.length ≤ 3) (nd : (cs.map fun c => c.1).Nodup) (w : ∀ c ∈ cs, 1 ≤ c.2 ∧ c.2 ≤ 100) (okL : ∀ z ∈ cs.map (fun c => c.1), PyData.strOk z = true)
    (hr : V0 r = some (.lst (xs.map V.ref))) (hS : Paired (fun s x => StA K B V0 x s) ss xs) (lss : ss.length ≤ 1000) (ok : okR ss 0 = some 1) (lf : ∀ s ∈ ss, s.isLeaf = true → s.leaf (cs.map fun c => c.1)) (rq : runQ lfQ ss [] = [q]) (hq : QA K V0 qa q) (dep : q.dep ≤ 12) (k : ∀ H', D.rt (.bl true) H') :
    t_law_4 K E D [some (.ref a), some (.ref st), some (.ref p), some (.ref r), some (.ref qa), none, none, none, none, none] V0 := by
  have hs := runQ_nm ok lf rq
  have lL : (cs.map fun c => c.1).length ≤ 60 := by rw [List.length_map]; omega
  have n12 : q.dep ≤ nT := Nat.le_trans dep (by show 12 ≤ nT; decide)
  have sub : ∀ s ∈ ss, ∀ z, s.nm z → z ∈ cs.map fun c => c.1 := fun s h1 z h => by
    cases hl : s.isLeaf with
    | true => exact has_leaf (lf s h1 hl) z ((nm_leaf (lf s h1 hl) z).mpr h)
    | false => cases s <;> first | exact h.elim | cases hl
  have sq : ∀ z, q.has z → z ∈ cs.map fun c => c.1 := fun z hz => by
    obtain ⟨s, h1, h⟩ := (hs z).mp hz
    exact sub s h1 z h
  walk_at "gx"
  refine hq.dyn (by decide) ⟨qa, q, _, rfl, rfl, n12, hq, by omega, sq, fun M1 l1 W1 f1 n1 h1 nd1 pw1 hm1 => ?_⟩
  walk_at "gx"
  refine isi_lst h1 ?_
  try dsimp only [bIf, isB, Bool.not_true]
  walk_at "gx"
  refine ⟨B, r, xs, ss, _, rfl, f1 _ _ hr, Paired.mapP hS fun _ _ h => h.same f1, lss, sub, lL, fun M2 l2 W2 f2 n2 h2 nd2 pw2 hm2 => ?_⟩
  have eM : M1 = M2 := permS ((List.perm_ext_iff_of_nodup nd1 nd2).mpr fun z => by rw [hm1, hs, hm2]) pw1 pw2
  subst eM
  have okM : ∀ z ∈ M1, PyData.strOk z = true := fun z hz => okL z (sq z ((hm1 z).mp hz))
  have h12 := f2 _ _ h1
  refine eqd_strs (L := M1) okM h12 h2 ?_
  try dsimp only [bIf, isB, Bool.not_true]
  have lM : M1.length ≤ 60 := Nat.le_trans (nodup_len M1 _ nd1 fun z hz => sq z ((hm1 z).mp hz)) lL
  have lsz : (M1.map V.str).length < sizeLine := by rw [List.length_map, sizeLine_eq]; omega
  walk_at "gx"
  have e3 : Same V0 (upd W2 l1 (.lst (M1.map V.str ++ [.str "?"]))) := Same.mut (f1.trans f2) n1
  generalize upd W2 l1 (.lst (M1.map V.str ++ [.str "?"])) = W3 at *
  have hq3 := hq.same e3
  walk_at "gx"
  refine hq3.dyn (by decide) ⟨qa, q, _, rfl, rfl, n12, hq3, by omega, sq, fun M3 l3 W4 f4 n3 h3 nd3 pw3 hm3 => ?_⟩
  have e4 := e3.trans f4
  walk_at "gx"
  refine ⟨B, r, xs, ss, _, rfl, e4 _ _ hr, Paired.mapP hS fun _ _ h => h.same e4, lss, sub, lL, fun M4 l4 W5 f5 n4 h4 nd4 pw4 hm4 => ?_⟩
  have eM4 : M3 = M4 := permS ((List.perm_ext_iff_of_nodup nd3 nd4).mpr fun z => by rw [hm3, hs, hm4]) pw3 pw4
  subst eM4
  refine eqd_strs (L := M3) (fun z hz => okL z (sq z ((hm3 z).mp hz))) (f5 _ _ h3) h4 ?_
  try dsimp only [bIf, isB, Bool.not_true]
  have e5 := e4.trans f5
  walk_at "go"
  exact ⟨k41_8 (c.same e5) (e5 _ _ hp) pst (hC.same e5) lc nd w okL k⟩
end
theorem pure_law {K : Frag} (vs : List V) (H : Hp) (Q : VK) (E : XK) (h : sp_law K vs H Q E) : t_law K E { nx := fun _ H' => Q .non H', rt := Q } (start ["_law_script", "_law_state", "_law_columns_here", "_law_recipe_here", "_law_question_here", "_law_first", "_law_leaves", "_law_parts", "_law_k", "_law_leaf_here"] vs) H := by
  obtain ⟨a, ns, rfl, hs, qq⟩ := h
  walk_at "gx"
  refine ⟨fun st nst => ?_⟩
  have c1 : Ctx K (upd H st (.lst [.int 0, .int 0, .int 0, .int 0])) a st := ctx0 hs nst _ ⟨0, 0, 0, 0, rfl, by decide, by decide, .inl rfl⟩
  generalize upd H st (.lst [.int 0, .int 0, .int 0, .int 0]) = H1 at *
  walk_at "gx"
  refine ⟨a, st, _, rfl, c1, by decide, by decide, fun p ys cs H2 np hp hC lc nd okc c2 e2 => ?_⟩
  have pst := ctx_ne c1 np
  obtain ⟨l2, hst2⟩ := ctx_st c2
  have w : ∀ c ∈ cs, 1 ≤ c.2 ∧ c.2 ≤ 100 := fun c hc => ⟨(okc c hc).2.1, by have := (okc c hc).2.2; omega⟩
  have okL : ∀ z ∈ cs.map (fun c => c.1), PyData.strOk z = true := fun z hz => by
    obtain ⟨c, hc, rfl⟩ := List.mem_map.mp hz
    exact (okc c hc).1.ok
  walk_at "gx"
  refine ⟨a, st, p, _, ys, cs, rfl, c2, hp, pst, hC, by omega, nd, w, by decide, by decide, fun r xs ss H4 nr hr hS ok co lss lf c4 e4 => ?_⟩
  have lf : ∀ s ∈ ss, s.isLeaf = true → s.leaf (cs.map fun c => c.1) := fun s hs hl => (lf s hs hl).1
  have co : (costR ss : Int) ≤ 12 := co
  have lss : (ss.length : Int) ≤ 2 * 12 := lss
  obtain ⟨q, hq0, hd0⟩ := runQ_one (lf := lfQ) lfQ_dep ok
  have hp4 := e4 _ _ hp pst
  have hC4 := hC.x e4 hst2
  walk_at "gx"
  refine ⟨H2, r, xs, ss, _, rfl, ⟨icA, by unfold inC csT; decide, by unfold inC csT; decide, icB41, icE41, by unfold inC csT; decide, by unfold inC csT; decide⟩, hr, hS, ok, by omega, lf, by rw [List.length_map]; omega, fun qa q1 H5 hq1 e5 hqa => ?_⟩
  rw [hq0] at hq1
  cases hq1
  walk_at "go"
  exact ⟨k41_4 (c4.same e5) (e5 _ _ hp4) pst (hC4.same e5) lc nd w okL (e5 _ _ hr) (Paired.mapP hS fun _ _ h => h.same e5) (by omega) ok lf hq0 hqa (by omega) qq⟩
end S

namespace S
open PySem PySem.Spec PyProof.Rows L2
theorem sc__law_draw : FnScope ["_law_script", "_law_state", "_law_base", "_law_here", "_law_number_here", "_law_digit", "_law_mixed"] ["_law_script", "_law_state", "_law_base"] (defScope s__law_draw) := ⟨rfl, rfl, rfl, by decide +kernel, rfl, by decide +kernel, by decide +kernel⟩
theorem sc__law_names : FnScope ["_law_script", "_law_state", "_law_count", "_law_letters", "_law_names_here", "_law_k", "_law_head", "_law_j", "_law_tail", "_law_name", "_law_word"] ["_law_script", "_law_state", "_law_count"] (defScope s__law_names) := ⟨rfl, rfl, rfl, by decide +kernel, rfl, by decide +kernel, by decide +kernel⟩
theorem sc__law_columns : FnScope ["_law_script", "_law_state", "_law_most", "_law_count", "_law_room", "_law_columns_here", "_law_name", "_law_extra"] ["_law_script", "_law_state", "_law_most"] (defScope s__law_columns) := ⟨rfl, rfl, rfl, by decide +kernel, rfl, by decide +kernel, by decide +kernel⟩
theorem sc__law_wide : FnScope ["_law_script", "_law_state", "_law_limit", "_law_number_here", "_law_k"] ["_law_script", "_law_state", "_law_limit"] (defScope s__law_wide) := ⟨rfl, rfl, rfl, by decide +kernel, rfl, by decide +kernel, by decide +kernel⟩
theorem sc__law_number : FnScope ["_law_script", "_law_state", "_law_places", "_law_half", "_law_kind", "_law_number_here", "_law_power"] ["_law_script", "_law_state", "_law_places"] (defScope s__law_number) := ⟨rfl, rfl, rfl, by decide +kernel, rfl, by decide +kernel, by decide +kernel⟩
theorem sc__law_leaf : FnScope ["_law_script", "_law_state", "_law_columns_here", "_law_kind", "_law_column", "_law_terms", "_law_bound", "_law_factor"] ["_law_script", "_law_state", "_law_columns_here"] (defScope s__law_leaf) := ⟨rfl, rfl, rfl, by decide +kernel, rfl, by decide +kernel, by decide +kernel⟩
theorem sc__law_recipe : FnScope ["_law_script", "_law_state", "_law_columns_here", "_law_most", "_law_recipe_here", "_law_sizes", "_law_k", "_law_kind", "_law_last"] ["_law_script", "_law_state", "_law_columns_here", "_law_most"] (defScope s__law_recipe) := ⟨rfl, rfl, rfl, by decide +kernel, rfl, by decide +kernel, by decide +kernel⟩
theorem sc_Questiondd_initdd : FnScope ["self", "parts"] ["self", "parts"] (defScope s_Questiondd_initdd) := ⟨rfl, rfl, rfl, by decide +kernel, rfl, by decide +kernel, by decide +kernel⟩
theorem sc_Bothdd_initdd : NdefX.NScope ["self", "one", "other", "__class__"] ["self", "one", "other"] ["__class__"] (defScope s_Bothdd_initdd) := NdefX.nscope_by (by decide +kernel)
theorem sc_Questiondd_anddd : FnScope ["self", "other"] ["self", "other"] (defScope s_Questiondd_anddd) := ⟨rfl, rfl, rfl, by decide +kernel, rfl, by decide +kernel, by decide +kernel⟩
theorem sc_Eitherdd_initdd : NdefX.NScope ["self", "one", "other", "__class__"] ["self", "one", "other"] ["__class__"] (defScope s_Eitherdd_initdd) := NdefX.nscope_by (by decide +kernel)
theorem sc_Questiondd_ordd : FnScope ["self", "other"] ["self", "other"] (defScope s_Questiondd_ordd) := ⟨rfl, rfl, rfl, by decide +kernel, rfl, by decide +kernel, by decide +kernel⟩
theorem sc_Oppositedd_initdd : NdefX.NScope ["self", "part", "__class__"] ["self", "part"] ["__class__"] (defScope s_Oppositedd_initdd) := NdefX.nscope_by (by decide +kernel)
theorem sc_Questiondd_invertdd : FnScope ["self"] ["self"] (defScope s_Questiondd_invertdd) := ⟨rfl, rfl, rfl, by decide +kernel, rfl, by decide +kernel, by decide +kernel⟩
theorem sc_Surelydd_initdd : NdefX.NScope ["self", "part", "__class__"] ["self", "part"] ["__class__"] (defScope s_Surelydd_initdd) := NdefX.nscope_by (by decide +kernel)
theorem sc_Question_surely : FnScope ["self"] ["self"] (defScope s_Question_surely) := ⟨rfl, rfl, rfl, by decide +kernel, rfl, by decide +kernel, by decide +kernel⟩
theorem sc_Presentdd_initdd : NdefX.NScope ["self", "name", "__class__"] ["self", "name"] ["__class__"] (defScope s_Presentdd_initdd) := NdefX.nscope_by (by decide +kernel)
theorem sc_HasBitdd_initdd : NdefX.NScope ["self", "name", "place", "__class__"] ["self", "name", "place"] ["__class__"] (defScope s_HasBitdd_initdd) := NdefX.nscope_by (by decide +kernel)
theorem sc_Formdd_initdd : FnScope ["self", "terms", "offset", "name"] ["self", "terms", "offset"] (defScope s_Formdd_initdd) := ⟨rfl, rfl, rfl, by decide +kernel, rfl, by decide +kernel, by decide +kernel⟩
theorem sc_AtMostdd_initdd : NdefX.NScope ["self", "form", "bound", "__class__"] ["self", "form", "bound"] ["__class__"] (defScope s_AtMostdd_initdd) := NdefX.nscope_by (by decide +kernel)
theorem sc__law_question : FnScope ["_law_recipe_here", "_law_stack", "_law_step", "_law_last", "_law_factors", "_law_term"] ["_law_recipe_here"] (defScope s__law_question) := ⟨rfl, rfl, rfl, by decide +kernel, rfl, by decide +kernel, by decide +kernel⟩
theorem sc_AtMost_names : FnScope ["self", "name", "_"] ["self"] (defScope s_AtMost_names) := ⟨rfl, rfl, rfl, by decide +kernel, rfl, by decide +kernel, by decide +kernel⟩
theorem sc_Present_names : FnScope ["self"] ["self"] (defScope s_Present_names) := ⟨rfl, rfl, rfl, by decide +kernel, rfl, by decide +kernel, by decide +kernel⟩
theorem sc_HasBit_names : FnScope ["self"] ["self"] (defScope s_HasBit_names) := ⟨rfl, rfl, rfl, by decide +kernel, rfl, by decide +kernel, by decide +kernel⟩
theorem sc_Question_names : FnScope ["self", "found", "part"] ["self"] (defScope s_Question_names) := ⟨rfl, rfl, rfl, by decide +kernel, rfl, by decide +kernel, by decide +kernel⟩
theorem sc__law_named : FnScope ["_law_recipe_here", "_law_found", "_law_step", "_law_term", "_law_name"] ["_law_recipe_here"] (defScope s__law_named) := ⟨rfl, rfl, rfl, by decide +kernel, rfl, by decide +kernel, by decide +kernel⟩
theorem sc_all_of : FnScope ["parts", "result", "part"] ["parts"] (defScope s_all_of) := ⟨rfl, rfl, rfl, by decide +kernel, rfl, by decide +kernel, by decide +kernel⟩
theorem sc_any_of : FnScope ["parts", "result", "part"] ["parts"] (defScope s_any_of) := ⟨rfl, rfl, rfl, by decide +kernel, rfl, by decide +kernel, by decide +kernel⟩
theorem sc__law_joined : FnScope ["_law_parts", "_law_every"] ["_law_parts", "_law_every"] (defScope s__law_joined) := ⟨rfl, rfl, rfl, by decide +kernel, rfl, by decide +kernel, by decide +kernel⟩
theorem sc__law_is_number : FnScope ["_law_x"] ["_law_x"] (defScope s__law_is_number) := ⟨rfl, rfl, rfl, by decide +kernel, rfl, by decide +kernel, by decide +kernel⟩
theorem sc__law_is_leaf : FnScope ["_law_question_here", "_law_leaf_here"] ["_law_question_here", "_law_leaf_here"] (defScope s__law_is_leaf) := ⟨rfl, rfl, rfl, by decide +kernel, rfl, by decide +kernel, by decide +kernel⟩
theorem sc_Form_value : FnScope ["self", "row", "result", "name", "coefficient"] ["self", "row"] (defScope s_Form_value) := ⟨rfl, rfl, rfl, by decide +kernel, rfl, by decide +kernel, by decide +kernel⟩
theorem sc_AtMost_truth : FnScope ["self", "row", "value"] ["self", "row"] (defScope s_AtMost_truth) := ⟨rfl, rfl, rfl, by decide +kernel, rfl, by decide +kernel, by decide +kernel⟩
theorem sc_Present_truth : FnScope ["self", "row"] ["self", "row"] (defScope s_Present_truth) := ⟨rfl, rfl, rfl, by decide +kernel, rfl, by decide +kernel, by decide +kernel⟩
theorem sc_HasBit_truth : FnScope ["self", "row"] ["self", "row"] (defScope s_HasBit_truth) := ⟨rfl, rfl, rfl, by decide +kernel, rfl, by decide +kernel, by decide +kernel⟩
theorem sc_Surely_truth : FnScope ["self", "row"] ["self", "row"] (defScope s_Surely_truth) := ⟨rfl, rfl, rfl, by decide +kernel, rfl, by decide +kernel, by decide +kernel⟩
theorem sc_rank_of : FnScope ["truth"] ["truth"] (defScope s_rank_of) := ⟨rfl, rfl, rfl, by decide +kernel, rfl, by decide +kernel, by decide +kernel⟩
theorem sc_opposite_truth : FnScope ["truth"] ["truth"] (defScope s_opposite_truth) := ⟨rfl, rfl, rfl, by decide +kernel, rfl, by decide +kernel, by decide +kernel⟩
theorem sc_Opposite_truth : FnScope ["self", "row"] ["self", "row"] (defScope s_Opposite_truth) := ⟨rfl, rfl, rfl, by decide +kernel, rfl, by decide +kernel, by decide +kernel⟩
theorem sc_either_truths : FnScope ["one", "other"] ["one", "other"] (defScope s_either_truths) := ⟨rfl, rfl, rfl, by decide +kernel, rfl, by decide +kernel, by decide +kernel⟩
theorem sc_Either_truth : FnScope ["self", "row"] ["self", "row"] (defScope s_Either_truth) := ⟨rfl, rfl, rfl, by decide +kernel, rfl, by decide +kernel, by decide +kernel⟩
theorem sc_both_truths : FnScope ["one", "other"] ["one", "other"] (defScope s_both_truths) := ⟨rfl, rfl, rfl, by decide +kernel, rfl, by decide +kernel, by decide +kernel⟩
theorem sc_Both_truth : FnScope ["self", "row"] ["self", "row"] (defScope s_Both_truth) := ⟨rfl, rfl, rfl, by decide +kernel, rfl, by decide +kernel, by decide +kernel⟩
theorem sc__law_chain : FnScope ["_law_question_here", "_law_leaves", "_law_every", "_law_node", "_law_k"] ["_law_question_here", "_law_leaves", "_law_every"] (defScope s__law_chain) := ⟨rfl, rfl, rfl, by decide +kernel, rfl, by decide +kernel, by decide +kernel⟩
theorem sc_law : FnScope ["_law_script", "_law_state", "_law_columns_here", "_law_recipe_here", "_law_question_here", "_law_first", "_law_leaves", "_law_parts", "_law_k", "_law_leaf_here"] ["_law_script"] (defScope s_law) := ⟨rfl, rfl, rfl, by decide +kernel, rfl, by decide +kernel, by decide +kernel⟩
structure T0 (P : Program) (K : Frag) (mg : Str → Option Value) : Prop where
  n_abs : mg "abs" = none
  n_bool : mg "bool" = none
  n_dict : mg "dict" = none
  n_int : mg "int" = none
  n_isinstance : mg "isinstance" = none
  n_len : mg "len" = none
  n_list : mg "list" = none
  n_max : mg "max" = none
  n_min : mg "min" = none
  n_range : mg "range" = none
  n_set : mg "set" = none
  n_sorted : mg "sorted" = none
  n_sum : mg "sum" = none
  n_super : mg "super" = none
  n_tuple : mg "tuple" = none
  g_AtMost : mg "AtMost" = some (.ref (He.ga K "AtMost"))
  g_Both : mg "Both" = some (.ref (He.ga K "Both"))
  g_Either : mg "Either" = some (.ref (He.ga K "Either"))
  g_Form : mg "Form" = some (.ref (He.ga K "Form"))
  g_HasBit : mg "HasBit" = some (.ref (He.ga K "HasBit"))
  g_Opposite : mg "Opposite" = some (.ref (He.ga K "Opposite"))
  g_Present : mg "Present" = some (.ref (He.ga K "Present"))
  g_Question : mg "Question" = some (.ref (He.ga K "Question"))
  g_RANKED : mg "RANKED" = some (.ref (He.ga K "RANKED"))
  g_Surely : mg "Surely" = some (.ref (He.ga K "Surely"))
  g__law_chain : mg "_law_chain" = some (.ref (He.ga K "_law_chain"))
  g__law_columns : mg "_law_columns" = some (.ref (He.ga K "_law_columns"))
  g__law_draw : mg "_law_draw" = some (.ref (He.ga K "_law_draw"))
  g__law_is_leaf : mg "_law_is_leaf" = some (.ref (He.ga K "_law_is_leaf"))
  g__law_is_number : mg "_law_is_number" = some (.ref (He.ga K "_law_is_number"))
  g__law_joined : mg "_law_joined" = some (.ref (He.ga K "_law_joined"))
  g__law_leaf : mg "_law_leaf" = some (.ref (He.ga K "_law_leaf"))
  g__law_named : mg "_law_named" = some (.ref (He.ga K "_law_named"))
  g__law_names : mg "_law_names" = some (.ref (He.ga K "_law_names"))
  g__law_number : mg "_law_number" = some (.ref (He.ga K "_law_number"))
  g__law_question : mg "_law_question" = some (.ref (He.ga K "_law_question"))
  g__law_recipe : mg "_law_recipe" = some (.ref (He.ga K "_law_recipe"))
  g__law_wide : mg "_law_wide" = some (.ref (He.ga K "_law_wide"))
  g_all_of : mg "all_of" = some (.ref (He.ga K "all_of"))
  g_any_of : mg "any_of" = some (.ref (He.ga K "any_of"))
  g_both_truths : mg "both_truths" = some (.ref (He.ga K "both_truths"))
  g_either_truths : mg "either_truths" = some (.ref (He.ga K "either_truths"))
  g_law : mg "law" = some (.ref (He.ga K "law"))
  g_opposite_truth : mg "opposite_truth" = some (.ref (He.ga K "opposite_truth"))
  g_rank_of : mg "rank_of" = some (.ref (He.ga K "rank_of"))
  F__law_draw : ∃ fd, FunD K "_law_draw" "_law_draw" (defArgs s__law_draw) (defBody s__law_draw) (defScope s__law_draw) [] [] (He.fAd K ("_law_draw", none)) fd
  k__law_draw : PySem.W.keepIn K (.ref (He.fAd K ("_law_draw", none))) = true
  F__law_names : ∃ fd, FunD K "_law_names" "_law_names" (defArgs s__law_names) (defBody s__law_names) (defScope s__law_names) [] [] (He.fAd K ("_law_names", none)) fd
  k__law_names : PySem.W.keepIn K (.ref (He.fAd K ("_law_names", none))) = true
  F__law_columns : ∃ fd, FunD K "_law_columns" "_law_columns" (defArgs s__law_columns) (defBody s__law_columns) (defScope s__law_columns) [] [] (He.fAd K ("_law_columns", none)) fd
  k__law_columns : PySem.W.keepIn K (.ref (He.fAd K ("_law_columns", none))) = true
  F__law_wide : ∃ fd, FunD K "_law_wide" "_law_wide" (defArgs s__law_wide) (defBody s__law_wide) (defScope s__law_wide) [] [] (He.fAd K ("_law_wide", none)) fd
  k__law_wide : PySem.W.keepIn K (.ref (He.fAd K ("_law_wide", none))) = true
  F__law_number : ∃ fd, FunD K "_law_number" "_law_number" (defArgs s__law_number) (defBody s__law_number) (defScope s__law_number) [] [] (He.fAd K ("_law_number", none)) fd
  k__law_number : PySem.W.keepIn K (.ref (He.fAd K ("_law_number", none))) = true
  F__law_leaf : ∃ fd, FunD K "_law_leaf" "_law_leaf" (defArgs s__law_leaf) (defBody s__law_leaf) (defScope s__law_leaf) [] [] (He.fAd K ("_law_leaf", none)) fd
  k__law_leaf : PySem.W.keepIn K (.ref (He.fAd K ("_law_leaf", none))) = true
  F__law_recipe : ∃ fd, FunD K "_law_recipe" "_law_recipe" (defArgs s__law_recipe) (defBody s__law_recipe) (defScope s__law_recipe) [] [] (He.fAd K ("_law_recipe", none)) fd
  k__law_recipe : PySem.W.keepIn K (.ref (He.fAd K ("_law_recipe", none))) = true
  F_Questiondd_initdd : ∃ fd, FunD K "__init__" "Question.__init__" (defArgs s_Questiondd_initdd) (defBody s_Questiondd_initdd) (defScope s_Questiondd_initdd) [] [] (He.fAd K ("Question", some "__init__")) fd
  k_Questiondd_initdd : PySem.W.keepIn K (.ref (He.fAd K ("Question", some "__init__"))) = true
  F_Questiondd_anddd : ∃ fd, FunD K "__and__" "Question.__and__" (defArgs s_Questiondd_anddd) (defBody s_Questiondd_anddd) (defScope s_Questiondd_anddd) [] [] (He.fAd K ("Question", some "__and__")) fd
  k_Questiondd_anddd : PySem.W.keepIn K (.ref (He.fAd K ("Question", some "__and__"))) = true
  F_Questiondd_ordd : ∃ fd, FunD K "__or__" "Question.__or__" (defArgs s_Questiondd_ordd) (defBody s_Questiondd_ordd) (defScope s_Questiondd_ordd) [] [] (He.fAd K ("Question", some "__or__")) fd
  k_Questiondd_ordd : PySem.W.keepIn K (.ref (He.fAd K ("Question", some "__or__"))) = true
  F_Questiondd_invertdd : ∃ fd, FunD K "__invert__" "Question.__invert__" (defArgs s_Questiondd_invertdd) (defBody s_Questiondd_invertdd) (defScope s_Questiondd_invertdd) [] [] (He.fAd K ("Question", some "__invert__")) fd
  k_Questiondd_invertdd : PySem.W.keepIn K (.ref (He.fAd K ("Question", some "__invert__"))) = true
  F_Question_surely : ∃ fd, FunD K "surely" "Question.surely" (defArgs s_Question_surely) (defBody s_Question_surely) (defScope s_Question_surely) [] [] (He.fAd K ("Question", some "surely")) fd
  k_Question_surely : PySem.W.keepIn K (.ref (He.fAd K ("Question", some "surely"))) = true
  F_Formdd_initdd : ∃ fd, FunD K "__init__" "Form.__init__" (defArgs s_Formdd_initdd) (defBody s_Formdd_initdd) (defScope s_Formdd_initdd) [V.int 0] [] (He.fAd K ("Form", some "__init__")) fd
  k_Formdd_initdd : PySem.W.keepIn K (.ref (He.fAd K ("Form", some "__init__"))) = true
  F__law_question : ∃ fd, FunD K "_law_question" "_law_question" (defArgs s__law_question) (defBody s__law_question) (defScope s__law_question) [] [] (He.fAd K ("_law_question", none)) fd
  k__law_question : PySem.W.keepIn K (.ref (He.fAd K ("_law_question", none))) = true
  F_AtMost_names : ∃ fd, FunD K "names" "AtMost.names" (defArgs s_AtMost_names) (defBody s_AtMost_names) (defScope s_AtMost_names) [] [] (He.fAd K ("AtMost", some "names")) fd
  k_AtMost_names : PySem.W.keepIn K (.ref (He.fAd K ("AtMost", some "names"))) = true
  F_Present_names : ∃ fd, FunD K "names" "Present.names" (defArgs s_Present_names) (defBody s_Present_names) (defScope s_Present_names) [] [] (He.fAd K ("Present", some "names")) fd
  k_Present_names : PySem.W.keepIn K (.ref (He.fAd K ("Present", some "names"))) = true
  F_HasBit_names : ∃ fd, FunD K "names" "HasBit.names" (defArgs s_HasBit_names) (defBody s_HasBit_names) (defScope s_HasBit_names) [] [] (He.fAd K ("HasBit", some "names")) fd
  k_HasBit_names : PySem.W.keepIn K (.ref (He.fAd K ("HasBit", some "names"))) = true
  F_Question_names : ∃ fd, FunD K "names" "Question.names" (defArgs s_Question_names) (defBody s_Question_names) (defScope s_Question_names) [] [] (He.fAd K ("Question", some "names")) fd
  k_Question_names : PySem.W.keepIn K (.ref (He.fAd K ("Question", some "names"))) = true
  F__law_named : ∃ fd, FunD K "_law_named" "_law_named" (defArgs s__law_named) (defBody s__law_named) (defScope s__law_named) [] [] (He.fAd K ("_law_named", none)) fd
  k__law_named : PySem.W.keepIn K (.ref (He.fAd K ("_law_named", none))) = true
  F_all_of : ∃ fd, FunD K "all_of" "all_of" (defArgs s_all_of) (defBody s_all_of) (defScope s_all_of) [] [] (He.fAd K ("all_of", none)) fd
  k_all_of : PySem.W.keepIn K (.ref (He.fAd K ("all_of", none))) = true
  F_any_of : ∃ fd, FunD K "any_of" "any_of" (defArgs s_any_of) (defBody s_any_of) (defScope s_any_of) [] [] (He.fAd K ("any_of", none)) fd
  k_any_of : PySem.W.keepIn K (.ref (He.fAd K ("any_of", none))) = true
  F__law_joined : ∃ fd, FunD K "_law_joined" "_law_joined" (defArgs s__law_joined) (defBody s__law_joined) (defScope s__law_joined) [] [] (He.fAd K ("_law_joined", none)) fd
  k__law_joined : PySem.W.keepIn K (.ref (He.fAd K ("_law_joined", none))) = true
  F__law_is_number : ∃ fd, FunD K "_law_is_number" "_law_is_number" (defArgs s__law_is_number) (defBody s__law_is_number) (defScope s__law_is_number) [] [] (He.fAd K ("_law_is_number", none)) fd
  k__law_is_number : PySem.W.keepIn K (.ref (He.fAd K ("_law_is_number", none))) = true
  F__law_is_leaf : ∃ fd, FunD K "_law_is_leaf" "_law_is_leaf" (defArgs s__law_is_leaf) (defBody s__law_is_leaf) (defScope s__law_is_leaf) [] [] (He.fAd K ("_law_is_leaf", none)) fd
  k__law_is_leaf : PySem.W.keepIn K (.ref (He.fAd K ("_law_is_leaf", none))) = true
  F_Form_value : ∃ fd, FunD K "value" "Form.value" (defArgs s_Form_value) (defBody s_Form_value) (defScope s_Form_value) [] [] (He.fAd K ("Form", some "value")) fd
  k_Form_value : PySem.W.keepIn K (.ref (He.fAd K ("Form", some "value"))) = true
  F_AtMost_truth : ∃ fd, FunD K "truth" "AtMost.truth" (defArgs s_AtMost_truth) (defBody s_AtMost_truth) (defScope s_AtMost_truth) [] [] (He.fAd K ("AtMost", some "truth")) fd
  k_AtMost_truth : PySem.W.keepIn K (.ref (He.fAd K ("AtMost", some "truth"))) = true
  F_Present_truth : ∃ fd, FunD K "truth" "Present.truth" (defArgs s_Present_truth) (defBody s_Present_truth) (defScope s_Present_truth) [] [] (He.fAd K ("Present", some "truth")) fd
  k_Present_truth : PySem.W.keepIn K (.ref (He.fAd K ("Present", some "truth"))) = true
  F_HasBit_truth : ∃ fd, FunD K "truth" "HasBit.truth" (defArgs s_HasBit_truth) (defBody s_HasBit_truth) (defScope s_HasBit_truth) [] [] (He.fAd K ("HasBit", some "truth")) fd
  k_HasBit_truth : PySem.W.keepIn K (.ref (He.fAd K ("HasBit", some "truth"))) = true
  F_Surely_truth : ∃ fd, FunD K "truth" "Surely.truth" (defArgs s_Surely_truth) (defBody s_Surely_truth) (defScope s_Surely_truth) [] [] (He.fAd K ("Surely", some "truth")) fd
  k_Surely_truth : PySem.W.keepIn K (.ref (He.fAd K ("Surely", some "truth"))) = true
  F_rank_of : ∃ fd, FunD K "rank_of" "rank_of" (defArgs s_rank_of) (defBody s_rank_of) (defScope s_rank_of) [] [] (He.fAd K ("rank_of", none)) fd
  k_rank_of : PySem.W.keepIn K (.ref (He.fAd K ("rank_of", none))) = true
  F_opposite_truth : ∃ fd, FunD K "opposite_truth" "opposite_truth" (defArgs s_opposite_truth) (defBody s_opposite_truth) (defScope s_opposite_truth) [] [] (He.fAd K ("opposite_truth", none)) fd
  k_opposite_truth : PySem.W.keepIn K (.ref (He.fAd K ("opposite_truth", none))) = true
  F_Opposite_truth : ∃ fd, FunD K "truth" "Opposite.truth" (defArgs s_Opposite_truth) (defBody s_Opposite_truth) (defScope s_Opposite_truth) [] [] (He.fAd K ("Opposite", some "truth")) fd
  k_Opposite_truth : PySem.W.keepIn K (.ref (He.fAd K ("Opposite", some "truth"))) = true
  F_either_truths : ∃ fd, FunD K "either_truths" "either_truths" (defArgs s_either_truths) (defBody s_either_truths) (defScope s_either_truths) [] [] (He.fAd K ("either_truths", none)) fd
  k_either_truths : PySem.W.keepIn K (.ref (He.fAd K ("either_truths", none))) = true
  F_Either_truth : ∃ fd, FunD K "truth" "Either.truth" (defArgs s_Either_truth) (defBody s_Either_truth) (defScope s_Either_truth) [] [] (He.fAd K ("Either", some "truth")) fd
  k_Either_truth : PySem.W.keepIn K (.ref (He.fAd K ("Either", some "truth"))) = true
  F_both_truths : ∃ fd, FunD K "both_truths" "both_truths" (defArgs s_both_truths) (defBody s_both_truths) (defScope s_both_truths) [] [] (He.fAd K ("both_truths", none)) fd
  k_both_truths : PySem.W.keepIn K (.ref (He.fAd K ("both_truths", none))) = true
  F_Both_truth : ∃ fd, FunD K "truth" "Both.truth" (defArgs s_Both_truth) (defBody s_Both_truth) (defScope s_Both_truth) [] [] (He.fAd K ("Both", some "truth")) fd
  k_Both_truth : PySem.W.keepIn K (.ref (He.fAd K ("Both", some "truth"))) = true
  F__law_chain : ∃ fd, FunD K "_law_chain" "_law_chain" (defArgs s__law_chain) (defBody s__law_chain) (defScope s__law_chain) [] [] (He.fAd K ("_law_chain", none)) fd
  k__law_chain : PySem.W.keepIn K (.ref (He.fAd K ("_law_chain", none))) = true
  F_law : ∃ fd, FunD K "law" "law" (defArgs s_law) (defBody s_law) (defScope s_law) [] [] (He.fAd K ("law", none)) fd
  k_law : PySem.W.keepIn K (.ref (He.fAd K ("law", none))) = true
  C_Form : CF K "Form" ["offset", "terms"]
  D_AtMost : DF K "AtMost" ["Question"] ["parts", "terms", "bound"]
  D_Both : DF K "Both" ["Question"] ["parts", "one", "other"]
  D_Either : DF K "Either" ["Question"] ["parts", "one", "other"]
  D_HasBit : DF K "HasBit" ["Question"] ["parts", "name", "place"]
  D_Opposite : DF K "Opposite" ["Question"] ["parts", "part"]
  D_Present : DF K "Present" ["Question"] ["parts", "name"]
  D_Question : DF K "Question" [] ["parts"]
  D_Surely : DF K "Surely" ["Question"] ["parts", "part"]
  K_AtMost : Mk K (He.ga K "AtMost") (He.fAd K ("AtMost", some "__init__"))
  K_Both : Mk K (He.ga K "Both") (He.fAd K ("Both", some "__init__"))
  K_Either : Mk K (He.ga K "Either") (He.fAd K ("Either", some "__init__"))
  K_Form : Mk K (He.ga K "Form") (He.fAd K ("Form", some "__init__"))
  K_HasBit : Mk K (He.ga K "HasBit") (He.fAd K ("HasBit", some "__init__"))
  K_Opposite : Mk K (He.ga K "Opposite") (He.fAd K ("Opposite", some "__init__"))
  K_Present : Mk K (He.ga K "Present") (He.fAd K ("Present", some "__init__"))
  K_Surely : Mk K (He.ga K "Surely") (He.fAd K ("Surely", some "__init__"))
  M_AtMost_ddanddd : Meth K (He.ga K "AtMost") "__and__" (He.fAd K ("AtMost", some "__and__"))
  M_AtMost_ddinvertdd : Meth K (He.ga K "AtMost") "__invert__" (He.fAd K ("AtMost", some "__invert__"))
  M_AtMost_ddordd : Meth K (He.ga K "AtMost") "__or__" (He.fAd K ("AtMost", some "__or__"))
  M_AtMost_names : Meth K (He.ga K "AtMost") "names" (He.fAd K ("AtMost", some "names"))
  M_AtMost_surely : Meth K (He.ga K "AtMost") "surely" (He.fAd K ("AtMost", some "surely"))
  M_AtMost_truth : Meth K (He.ga K "AtMost") "truth" (He.fAd K ("AtMost", some "truth"))
  M_Both_ddanddd : Meth K (He.ga K "Both") "__and__" (He.fAd K ("Both", some "__and__"))
  M_Both_ddinvertdd : Meth K (He.ga K "Both") "__invert__" (He.fAd K ("Both", some "__invert__"))
  M_Both_ddordd : Meth K (He.ga K "Both") "__or__" (He.fAd K ("Both", some "__or__"))
  M_Both_names : Meth K (He.ga K "Both") "names" (He.fAd K ("Both", some "names"))
  M_Both_surely : Meth K (He.ga K "Both") "surely" (He.fAd K ("Both", some "surely"))
  M_Both_truth : Meth K (He.ga K "Both") "truth" (He.fAd K ("Both", some "truth"))
  M_Either_ddanddd : Meth K (He.ga K "Either") "__and__" (He.fAd K ("Either", some "__and__"))
  M_Either_ddinvertdd : Meth K (He.ga K "Either") "__invert__" (He.fAd K ("Either", some "__invert__"))
  M_Either_ddordd : Meth K (He.ga K "Either") "__or__" (He.fAd K ("Either", some "__or__"))
  M_Either_names : Meth K (He.ga K "Either") "names" (He.fAd K ("Either", some "names"))
  M_Either_surely : Meth K (He.ga K "Either") "surely" (He.fAd K ("Either", some "surely"))
  M_Either_truth : Meth K (He.ga K "Either") "truth" (He.fAd K ("Either", some "truth"))
  M_Form_value : Meth K (He.ga K "Form") "value" (He.fAd K ("Form", some "value"))
  M_HasBit_ddanddd : Meth K (He.ga K "HasBit") "__and__" (He.fAd K ("HasBit", some "__and__"))
  M_HasBit_ddinvertdd : Meth K (He.ga K "HasBit") "__invert__" (He.fAd K ("HasBit", some "__invert__"))
  M_HasBit_ddordd : Meth K (He.ga K "HasBit") "__or__" (He.fAd K ("HasBit", some "__or__"))
  M_HasBit_names : Meth K (He.ga K "HasBit") "names" (He.fAd K ("HasBit", some "names"))
  M_HasBit_surely : Meth K (He.ga K "HasBit") "surely" (He.fAd K ("HasBit", some "surely"))
  M_HasBit_truth : Meth K (He.ga K "HasBit") "truth" (He.fAd K ("HasBit", some "truth"))
  M_Opposite_ddanddd : Meth K (He.ga K "Opposite") "__and__" (He.fAd K ("Opposite", some "__and__"))
  M_Opposite_ddinvertdd : Meth K (He.ga K "Opposite") "__invert__" (He.fAd K ("Opposite", some "__invert__"))
  M_Opposite_ddordd : Meth K (He.ga K "Opposite") "__or__" (He.fAd K ("Opposite", some "__or__"))
  M_Opposite_names : Meth K (He.ga K "Opposite") "names" (He.fAd K ("Opposite", some "names"))
  M_Opposite_surely : Meth K (He.ga K "Opposite") "surely" (He.fAd K ("Opposite", some "surely"))
  M_Opposite_truth : Meth K (He.ga K "Opposite") "truth" (He.fAd K ("Opposite", some "truth"))
  M_Present_ddanddd : Meth K (He.ga K "Present") "__and__" (He.fAd K ("Present", some "__and__"))
  M_Present_ddinvertdd : Meth K (He.ga K "Present") "__invert__" (He.fAd K ("Present", some "__invert__"))
  M_Present_ddordd : Meth K (He.ga K "Present") "__or__" (He.fAd K ("Present", some "__or__"))
  M_Present_names : Meth K (He.ga K "Present") "names" (He.fAd K ("Present", some "names"))
  M_Present_surely : Meth K (He.ga K "Present") "surely" (He.fAd K ("Present", some "surely"))
  M_Present_truth : Meth K (He.ga K "Present") "truth" (He.fAd K ("Present", some "truth"))
  M_Surely_ddanddd : Meth K (He.ga K "Surely") "__and__" (He.fAd K ("Surely", some "__and__"))
  M_Surely_ddinvertdd : Meth K (He.ga K "Surely") "__invert__" (He.fAd K ("Surely", some "__invert__"))
  M_Surely_ddordd : Meth K (He.ga K "Surely") "__or__" (He.fAd K ("Surely", some "__or__"))
  M_Surely_names : Meth K (He.ga K "Surely") "names" (He.fAd K ("Surely", some "names"))
  M_Surely_surely : Meth K (He.ga K "Surely") "surely" (He.fAd K ("Surely", some "surely"))
  M_Surely_truth : Meth K (He.ga K "Surely") "truth" (He.fAd K ("Surely", some "truth"))
  NF_and : NfF K csT "and"
  NF_or : NfF K csT "or"
  Q_AtMost_ddanddd : He.fAd K ("AtMost", some "__and__") = He.fAd K ("Question", some "__and__")
  Q_AtMost_ddinvertdd : He.fAd K ("AtMost", some "__invert__") = He.fAd K ("Question", some "__invert__")
  Q_AtMost_ddordd : He.fAd K ("AtMost", some "__or__") = He.fAd K ("Question", some "__or__")
  Q_AtMost_surely : He.fAd K ("AtMost", some "surely") = He.fAd K ("Question", some "surely")
  Q_Both_ddanddd : He.fAd K ("Both", some "__and__") = He.fAd K ("Question", some "__and__")
  Q_Both_ddinvertdd : He.fAd K ("Both", some "__invert__") = He.fAd K ("Question", some "__invert__")
  Q_Both_ddordd : He.fAd K ("Both", some "__or__") = He.fAd K ("Question", some "__or__")
  Q_Both_names : He.fAd K ("Both", some "names") = He.fAd K ("Question", some "names")
  Q_Both_surely : He.fAd K ("Both", some "surely") = He.fAd K ("Question", some "surely")
  Q_Either_ddanddd : He.fAd K ("Either", some "__and__") = He.fAd K ("Question", some "__and__")
  Q_Either_ddinvertdd : He.fAd K ("Either", some "__invert__") = He.fAd K ("Question", some "__invert__")
  Q_Either_ddordd : He.fAd K ("Either", some "__or__") = He.fAd K ("Question", some "__or__")
  Q_Either_names : He.fAd K ("Either", some "names") = He.fAd K ("Question", some "names")
  Q_Either_surely : He.fAd K ("Either", some "surely") = He.fAd K ("Question", some "surely")
  Q_HasBit_ddanddd : He.fAd K ("HasBit", some "__and__") = He.fAd K ("Question", some "__and__")
  Q_HasBit_ddinvertdd : He.fAd K ("HasBit", some "__invert__") = He.fAd K ("Question", some "__invert__")
  Q_HasBit_ddordd : He.fAd K ("HasBit", some "__or__") = He.fAd K ("Question", some "__or__")
  Q_HasBit_surely : He.fAd K ("HasBit", some "surely") = He.fAd K ("Question", some "surely")
  Q_Opposite_ddanddd : He.fAd K ("Opposite", some "__and__") = He.fAd K ("Question", some "__and__")
  Q_Opposite_ddinvertdd : He.fAd K ("Opposite", some "__invert__") = He.fAd K ("Question", some "__invert__")
  Q_Opposite_ddordd : He.fAd K ("Opposite", some "__or__") = He.fAd K ("Question", some "__or__")
  Q_Opposite_names : He.fAd K ("Opposite", some "names") = He.fAd K ("Question", some "names")
  Q_Opposite_surely : He.fAd K ("Opposite", some "surely") = He.fAd K ("Question", some "surely")
  Q_Present_ddanddd : He.fAd K ("Present", some "__and__") = He.fAd K ("Question", some "__and__")
  Q_Present_ddinvertdd : He.fAd K ("Present", some "__invert__") = He.fAd K ("Question", some "__invert__")
  Q_Present_ddordd : He.fAd K ("Present", some "__or__") = He.fAd K ("Question", some "__or__")
  Q_Present_surely : He.fAd K ("Present", some "surely") = He.fAd K ("Question", some "surely")
  Q_Surely_ddanddd : He.fAd K ("Surely", some "__and__") = He.fAd K ("Question", some "__and__")
  Q_Surely_ddinvertdd : He.fAd K ("Surely", some "__invert__") = He.fAd K ("Question", some "__invert__")
  Q_Surely_ddordd : He.fAd K ("Surely", some "__or__") = He.fAd K ("Question", some "__or__")
  Q_Surely_names : He.fAd K ("Surely", some "names") = He.fAd K ("Question", some "names")
  Q_Surely_surely : He.fAd K ("Surely", some "surely") = He.fAd K ("Question", some "surely")
  S_AtMostdd_initdd : SupF P K "AtMost" (He.fAd K ("Question", some "__init__")) "__init__" "AtMost.__init__" (defArgs s_AtMostdd_initdd) (defBody s_AtMostdd_initdd) (defScope s_AtMostdd_initdd) (He.fAd K ("AtMost", some "__init__"))
  S_Bothdd_initdd : SupF P K "Both" (He.fAd K ("Question", some "__init__")) "__init__" "Both.__init__" (defArgs s_Bothdd_initdd) (defBody s_Bothdd_initdd) (defScope s_Bothdd_initdd) (He.fAd K ("Both", some "__init__"))
  S_Eitherdd_initdd : SupF P K "Either" (He.fAd K ("Question", some "__init__")) "__init__" "Either.__init__" (defArgs s_Eitherdd_initdd) (defBody s_Eitherdd_initdd) (defScope s_Eitherdd_initdd) (He.fAd K ("Either", some "__init__"))
  S_HasBitdd_initdd : SupF P K "HasBit" (He.fAd K ("Question", some "__init__")) "__init__" "HasBit.__init__" (defArgs s_HasBitdd_initdd) (defBody s_HasBitdd_initdd) (defScope s_HasBitdd_initdd) (He.fAd K ("HasBit", some "__init__"))
  S_Oppositedd_initdd : SupF P K "Opposite" (He.fAd K ("Question", some "__init__")) "__init__" "Opposite.__init__" (defArgs s_Oppositedd_initdd) (defBody s_Oppositedd_initdd) (defScope s_Oppositedd_initdd) (He.fAd K ("Opposite", some "__init__"))
  S_Presentdd_initdd : SupF P K "Present" (He.fAd K ("Question", some "__init__")) "__init__" "Present.__init__" (defArgs s_Presentdd_initdd) (defBody s_Presentdd_initdd) (defScope s_Presentdd_initdd) (He.fAd K ("Present", some "__init__"))
  S_Surelydd_initdd : SupF P K "Surely" (He.fAd K ("Question", some "__init__")) "__init__" "Surely.__init__" (defArgs s_Surelydd_initdd) (defBody s_Surelydd_initdd) (defScope s_Surelydd_initdd) (He.fAd K ("Surely", some "__init__"))
  U_RANKED : TupG K "RANKED" [V.bl false, V.non, V.bl true]
section
variable {P : Program} {w : World} {K : Frag} {mg : Str → Option Value} {base : Heap}
theorem ok__law_draw (T : T0 P K mg) : FR P w K mg base 1 (He.fAd K ("_law_draw", none)) (sp__law_draw K) := by
  obtain ⟨fd, F⟩ := T.F__law_draw
  refine mk_fn F sc__law_draw (fun vs H Q E h => by
    revert h; intro h; (repeat (first | (obtain ⟨rfl, _⟩ := h; exact rfl) | obtain ⟨_, h⟩ := h))) (fun _ _ _ _ _ _ us hl => match us, hl with | [_, _, _], _ => rfl) (t := t__law_draw K) (fun cdv A outer s H E hr => ?_) (fun vs H Q E h => pure__law_draw vs H Q E h)
  exact pss_cons (ps_if (pt_cmp (o_eq hr.units) (pe_ix ix_any (pv 1) (pe_int) (fun _ _ => rfl)) (pe_int) (nomark _)) (pss_cons (ps_set (i := 3) sc__law_draw.nd rfl (Or.inl rfl) (pe_ix ix_any (pv 1) (pe_int) (fun _ _ => rfl)))
    (pss_cons (ps_asg (pe_op o_add (pv 3) (pe_int)) (pg_sub (pv 1) (pe_int) s_list))
    (pss_cons (ps_if (pt_cmp o_ge (pv 3) (pe_cb c_len T.n_len (by decide +kernel) (pa_cons (pv 0) (pa_nil))) (nomark _)) (pss_one (ps_ret (pe_int))) (pss_nil))
    (pss_cons (ps_asg (pe_cb c_abs T.n_abs (by decide +kernel) (pa_cons (pe_ix ix_any (pv 0) (pv 3) (fun _ _ => rfl)) (pa_nil))) (pg_sub (pv 1) (pe_int) s_list))
    (pss_cons (ps_asg (pe_ct c_int T.n_int (by decide +kernel) (pa_cons (pe_cmp o_lt (pe_ix ix_any (pv 0) (pv 3) (fun _ _ => rfl)) (pe_int) (nomark _)) (pa_nil))) (pg_sub (pv 1) (pe_int) s_list))
    (pss_cons (ps_asg (pe_int) (pg_sub (pv 1) (pe_int) s_list))
    (pss_one (ps_if (pt_cmp o_ge (pe_ix ix_any (pv 1) (pe_int) (fun _ _ => rfl)) (pe_op o_pow (pe_int) (pe_int)) (nomark _)) (pss_cons (ps_asg (pe_int) (pg_sub (pv 1) (pe_int) s_list))
    (pss_one (ps_asg (pe_int) (pg_sub (pv 1) (pe_int) s_list)))) (pss_nil))))))))) (pss_nil))
    (pss_stop (pss_cons (ps_asg (pe_op o_sub (pe_ix ix_any (pv 1) (pe_int) (fun _ _ => rfl)) (pe_int)) (pg_sub (pv 1) (pe_int) s_list))
    (pss_stop (pss_cons (ps_set (i := 4) sc__law_draw.nd rfl (Or.inl rfl) (pe_ct c_int T.n_int (by decide +kernel) (pa_cons (pe_ix ix_any (pv 1) (pe_int) (fun _ _ => rfl)) (pa_nil))))
    (pss_stop (pss_cons (ps_if (pt_cmp (o_eq hr.units) (pe_ix ix_any (pv 1) (pe_int) (fun _ _ => rfl)) (pe_int) (nomark _)) (pss_cons (ps_asg (pe_op o_fdiv (pv 4) (pe_int)) (pg_sub (pv 1) (pe_int) s_list))
    (pss_cons (ps_if (pt_cmp (o_eq hr.units) (pe_ix ix_any (pv 1) (pe_int) (fun _ _ => rfl)) (pe_int) (nomark _)) (pss_one (ps_asg (pe_int) (pg_sub (pv 1) (pe_int) s_list))) (pss_nil))
    (pss_cons (ps_set (i := 5) sc__law_draw.nd rfl (Or.inl rfl) (pe_op o_mod (pe_ct c_int T.n_int (by decide +kernel) (pa_cons (pv 4) (pa_nil))) (pe_int)))
    (pss_one (ps_ret (pe_op o_mod (pe_ct c_int T.n_int (by decide +kernel) (pa_cons (pv 5) (pa_nil))) (pv 2))))))) (pss_nil))
    (pss_stop (pss_cons (ps_set (i := 6) sc__law_draw.nd rfl (Or.inl rfl) (pe_op o_mod (pe_ct c_int T.n_int (by decide +kernel) (pa_cons (pe_op o_add (pe_op o_mulA (pv 4) (pe_op o_add (pe_op o_add (pe_int) (pe_op o_mulA (pe_int) (pe_ix ix_any (pv 1) (pe_int) (fun _ _ => rfl)))) (pe_op o_mulA (pe_int) (pe_ix ix_any (pv 1) (pe_int) (fun _ _ => rfl))))) (pe_op o_mulA (pe_int) (pe_ix ix_any (pv 1) (pe_int) (fun _ _ => rfl)))) (pa_nil))) (pe_int)))
    (pss_stop (pss_cons (ps_set (i := 6) sc__law_draw.nd rfl (Or.inl rfl) (pe_op o_mod (pe_ct c_int T.n_int (by decide +kernel) (pa_cons (pe_op o_add (pe_op o_mulA (pv 6) (pv 6)) (pv 4)) (pa_nil))) (pe_int)))
    (pss_stop (pss_cons (ps_set (i := 6) sc__law_draw.nd rfl (Or.inl rfl) (pe_op o_mod (pe_ct c_int T.n_int (by decide +kernel) (pa_cons (pe_op o_mulA (pv 6) (pv 6)) (pa_nil))) (pe_int)))
    (pss_stop (pss_one (ps_ret (pe_op o_mod (pe_ct c_int T.n_int (by decide +kernel) (pa_cons (pv 6) (pa_nil))) (pv 2)))))))))))))))))
theorem ok__law_names (T : T0 P K mg) : FR P w K mg base 2 (He.fAd K ("_law_names", none)) (sp__law_names K) := by
  obtain ⟨fd, F⟩ := T.F__law_names
  have G__law_draw := ok__law_draw (P := P) (w := w) (base := base) T
  refine mk_fn F sc__law_names (fun vs H Q E h => by
    revert h; intro h; (repeat (first | (obtain ⟨rfl, _⟩ := h; exact rfl) | obtain ⟨_, h⟩ := h))) (fun _ _ _ _ _ _ us hl => match us, hl with | [_, _, _], _ => rfl) (t := t__law_names K) (fun cdv A outer s H E hr => ?_) (fun vs H Q E h => pure__law_names vs H Q E h)
  exact pss_cons (ps_set (i := 3) sc__law_names.nd rfl (Or.inl rfl) (pe_str))
    (pss_stop (pss_cons (ps_set (i := 4) sc__law_names.nd rfl (Or.inl rfl) (pe_lst (pa_nil)))
    (pss_stop (pss_cons (ps_for ownD rfl (pi_rng (by rfl) T.n_range (pa_cons (pv 2) (pa_nil))) (pg_name (i := 5) sc__law_names.nd rfl (Or.inl rfl)) (pss_cons (ps_set (i := 6) sc__law_names.nd rfl (Or.inl rfl) (pe_str))
    (pss_stop (pss_cons (ps_for ownD rfl (pi_rng (by rfl) T.n_range (pa_cons (pe_call (G__law_draw) (hr.mono (by decide)) T.g__law_draw T.k__law_draw passD (pa_cons (pv 0) (pa_cons (pv 1) (pa_cons (pe_int) (pa_nil))))) (pa_nil))) (pg_name (i := 7) sc__law_names.nd rfl (Or.inl rfl)) (pss_one (ps_set (i := 6) sc__law_names.nd rfl (Or.inl rfl) (pe_op o_add (pv 6) (pe_ix ix_any (pv 3) (pe_call (G__law_draw) (hr.mono (by decide)) T.g__law_draw T.k__law_draw passD (pa_cons (pv 0) (pa_cons (pv 1) (pa_cons (pe_int) (pa_nil))))) (fun _ _ => rfl))))))
    (pss_stop (pss_cons (ps_set (i := 8) sc__law_names.nd rfl (Or.inl rfl) (pe_call (G__law_draw) (hr.mono (by decide)) T.g__law_draw T.k__law_draw passD (pa_cons (pv 0) (pa_cons (pv 1) (pa_cons (pe_int) (pa_nil))))))
    (pss_stop (pss_cons (ps_set (i := 9) sc__law_names.nd rfl (Or.inl rfl) (pe_str))
    (pss_stop (pss_cons (ps_for ownD rfl (pi_rng (by rfl) T.n_range (pa_cons (pe_int) (pa_nil))) (pg_name (i := 7) sc__law_names.nd rfl (Or.inl rfl)) (pss_cons (ps_set (i := 10) sc__law_names.nd rfl (Or.inl rfl) (pe_op o_add (pv 6) (pe_ix ix_any (pv 3) (pe_op o_mod (pe_ct c_int T.n_int (by decide +kernel) (pa_cons (pe_op o_add (pv 8) (pv 7)) (pa_nil))) (pe_int)) (fun _ _ => rfl))))
    (pss_stop (pss_one (ps_if (PW.pt (pw_and (pt_cmp (o_eq hr.units) (pv 9) (pe_str) (nomark _)) (pw_and1 (pt_cmp o_nin (pv 10) (pv 4) (by rfl))))) (pss_one (ps_set (i := 9) sc__law_names.nd rfl (Or.inl rfl) (pv 10))) (pss_nil))))))
    (pss_stop (pss_one (ps_expr (pe_ml PySem.F.slot_list_append PySem.F.type_list_append m_app (pv 4) (pa_cons (pv 9) (pa_nil))))))))))))))))
    (pss_stop (pss_one (ps_ret (pv 4))))))))
theorem ok__law_columns (T : T0 P K mg) : FR P w K mg base 3 (He.fAd K ("_law_columns", none)) (sp__law_columns K) := by
  obtain ⟨fd, F⟩ := T.F__law_columns
  have G__law_draw := ok__law_draw (P := P) (w := w) (base := base) T
  have G__law_names := ok__law_names (P := P) (w := w) (base := base) T
  refine mk_fn F sc__law_columns (fun vs H Q E h => by
    revert h; intro h; (repeat (first | (obtain ⟨rfl, _⟩ := h; exact rfl) | obtain ⟨_, h⟩ := h))) (fun _ _ _ _ _ _ us hl => match us, hl with | [_, _, _], _ => rfl) (t := t__law_columns K) (fun cdv A outer s H E hr => ?_) (fun vs H Q E h => pure__law_columns vs H Q E h)
  exact pss_cons (ps_set (i := 3) sc__law_columns.nd rfl (Or.inl rfl) (pe_ix ix_any (pe_lst (pa_cons (pe_int) (pa_cons (pe_int) (pa_cons (pe_int) (pa_cons (pe_int) (pa_cons (pe_int) (pa_cons (pe_int) (pa_nil)))))))) (pe_call (G__law_draw) (hr.mono (by decide)) T.g__law_draw T.k__law_draw passD (pa_cons (pv 0) (pa_cons (pv 1) (pa_cons (pe_int) (pa_nil))))) (fun _ _ => rfl)))
    (pss_stop (pss_cons (ps_set (i := 4) sc__law_columns.nd rfl (Or.inl rfl) (pe_op o_sub (pv 2) (pe_op o_mulA (pe_int) (pv 3))))
    (pss_stop (pss_cons (ps_set (i := 5) sc__law_columns.nd rfl (Or.inl rfl) (pe_lst (pa_nil)))
    (pss_stop (pss_cons (ps_for ownD rfl (pi_seq (pe_call (G__law_names) (hr.mono (by decide)) T.g__law_names T.k__law_names passD (pa_cons (pv 0) (pa_cons (pv 1) (pa_cons (pv 3) (pa_nil)))))) (pg_name (i := 6) sc__law_columns.nd rfl (Or.inl rfl)) (pss_cons (ps_set (i := 7) sc__law_columns.nd rfl (Or.inl rfl) (pe_call (G__law_draw) (hr.mono (by decide)) T.g__law_draw T.k__law_draw passD (pa_cons (pv 0) (pa_cons (pv 1) (pa_cons (pe_op o_add (pe_cb (c_min2 rfl) T.n_min (by decide +kernel) (pa_cons (pv 4) (pa_cons (pe_int) (pa_nil)))) (pe_int)) (pa_nil))))))
    (pss_stop (pss_cons (ps_set (i := 4) sc__law_columns.nd rfl (Or.inl rfl) (pe_op o_sub (pv 4) (pv 7)))
    (pss_stop (pss_one (ps_expr (pe_ml PySem.F.slot_list_append PySem.F.type_list_append m_app (pv 5) (pa_cons (pe_tup (pa_cons (pv 6) (pa_cons (pe_op o_add (pe_int) (pv 7)) (pa_nil)))) (pa_nil))))))))))
    (pss_stop (pss_one (ps_ret (pv 5))))))))))
theorem ok__law_wide (T : T0 P K mg) : FR P w K mg base 2 (He.fAd K ("_law_wide", none)) (sp__law_wide K) := by
  obtain ⟨fd, F⟩ := T.F__law_wide
  have G__law_draw := ok__law_draw (P := P) (w := w) (base := base) T
  refine mk_fn F sc__law_wide (fun vs H Q E h => by
    revert h; intro h; (repeat (first | (obtain ⟨rfl, _⟩ := h; exact rfl) | obtain ⟨_, h⟩ := h))) (fun _ _ _ _ _ _ us hl => match us, hl with | [_, _, _], _ => rfl) (t := t__law_wide K) (fun cdv A outer s H E hr => ?_) (fun vs H Q E h => pure__law_wide vs H Q E h)
  exact pss_cons (ps_set (i := 3) sc__law_wide.nd rfl (Or.inl rfl) (pe_int))
    (pss_stop (pss_cons (ps_for ownD rfl (pi_rng (by rfl) T.n_range (pa_cons (pe_int) (pa_nil))) (pg_name (i := 4) sc__law_wide.nd rfl (Or.inl rfl)) (pss_one (ps_set (i := 3) sc__law_wide.nd rfl (Or.inl rfl) (pe_op o_add (pe_op o_mulA (pv 3) (pe_int)) (pe_call (G__law_draw) (hr.mono (by decide)) T.g__law_draw T.k__law_draw passD (pa_cons (pv 0) (pa_cons (pv 1) (pa_cons (pe_int) (pa_nil)))))))))
    (pss_stop (pss_one (ps_ret (pe_op o_mod (pe_ct c_int T.n_int (by decide +kernel) (pa_cons (pv 3) (pa_nil))) (pv 2)))))))
theorem ok__law_number (T : T0 P K mg) : FR P w K mg base 3 (He.fAd K ("_law_number", none)) (sp__law_number K) := by
  obtain ⟨fd, F⟩ := T.F__law_number
  have G__law_draw := ok__law_draw (P := P) (w := w) (base := base) T
  have G__law_wide := ok__law_wide (P := P) (w := w) (base := base) T
  refine mk_fn F sc__law_number (fun vs H Q E h => by
    revert h; intro h; (repeat (first | (obtain ⟨rfl, _⟩ := h; exact rfl) | obtain ⟨_, h⟩ := h))) (fun _ _ _ _ _ _ us hl => match us, hl with | [_, _, _], _ => rfl) (t := t__law_number K) (fun cdv A outer s H E hr => ?_) (fun vs H Q E h => pure__law_number vs H Q E h)
  exact pss_cons (ps_set (i := 3) sc__law_number.nd rfl (Or.inl rfl) (pe_op o_shl (pe_int) (pe_op o_sub (pv 2) (pe_int))))
    (pss_stop (pss_cons (ps_set (i := 4) sc__law_number.nd rfl (Or.inl rfl) (pe_call (G__law_draw) (hr.mono (by decide)) T.g__law_draw T.k__law_draw passD (pa_cons (pv 0) (pa_cons (pv 1) (pa_cons (pe_int) (pa_nil))))))
    (pss_stop (pss_cons (ps_set (i := 5) sc__law_number.nd rfl (Or.inl rfl) (pe_call (G__law_draw) (hr.mono (by decide)) T.g__law_draw T.k__law_draw passD (pa_cons (pv 0) (pa_cons (pv 1) (pa_cons (pe_int) (pa_nil))))))
    (pss_stop (pss_cons (ps_if (pt_cmp (o_eq hr.units) (pv 4) (pe_int) (nomark _)) (pss_one (ps_set (i := 5) sc__law_number.nd rfl (Or.inl rfl) (pe_op o_sub (pe_un u_neg (pe_int)) (pv 5)))) (pss_nil))
    (pss_stop (pss_cons (ps_if (pt_cmp (o_eq hr.units) (pv 4) (pe_int) (nomark _)) (pss_cons (ps_set (i := 6) sc__law_number.nd rfl (Or.inl rfl) (pe_op o_shl (pe_int) (pe_call (G__law_draw) (hr.mono (by decide)) T.g__law_draw T.k__law_draw passD (pa_cons (pv 0) (pa_cons (pv 1) (pa_cons (pv 2) (pa_nil)))))))
    (pss_one (ps_set (i := 5) sc__law_number.nd rfl (Or.inl rfl) (pe_ix ix_any (pe_lst (pa_cons (pe_op o_sub (pv 6) (pe_int)) (pa_cons (pv 6) (pa_cons (pe_un u_neg (pv 6)) (pa_cons (pe_op o_sub (pe_un u_neg (pe_int)) (pv 6)) (pa_nil)))))) (pv 5) (fun _ _ => rfl))))) (pss_nil))
    (pss_stop (pss_cons (ps_if (pt_cmp o_gt (pv 4) (pe_int) (nomark _)) (pss_one (ps_set (i := 5) sc__law_number.nd rfl (Or.inl rfl) (pe_call (G__law_wide) (hr.mono (by decide)) T.g__law_wide T.k__law_wide passD (pa_cons (pv 0) (pa_cons (pv 1) (pa_cons (pe_op o_mulA (pe_int) (pv 3)) (pa_nil))))))) (pss_nil))
    (pss_stop (pss_one (ps_ret (pe_op o_sub (pe_op o_mod (pe_ct c_int T.n_int (by decide +kernel) (pa_cons (pe_op o_add (pv 5) (pv 3)) (pa_nil))) (pe_op o_mulA (pe_int) (pv 3))) (pv 3)))))))))))))))
theorem ok__law_leaf (T : T0 P K mg) : FR P w K mg base 4 (He.fAd K ("_law_leaf", none)) (sp__law_leaf K) := by
  obtain ⟨fd, F⟩ := T.F__law_leaf
  have G__law_draw := ok__law_draw (P := P) (w := w) (base := base) T
  have G__law_number := ok__law_number (P := P) (w := w) (base := base) T
  refine mk_fn F sc__law_leaf (fun vs H Q E h => by
    revert h; intro h; (repeat (first | (obtain ⟨rfl, _⟩ := h; exact rfl) | obtain ⟨_, h⟩ := h))) (fun _ _ _ _ _ _ us hl => match us, hl with | [_, _, _], _ => rfl) (t := t__law_leaf K) (fun cdv A outer s H E hr => ?_) (fun vs H Q E h => pure__law_leaf vs H Q E h)
  exact pss_cons (ps_set (i := 3) sc__law_leaf.nd rfl (Or.inl rfl) (pe_call (G__law_draw) (hr.mono (by decide)) T.g__law_draw T.k__law_draw passD (pa_cons (pv 0) (pa_cons (pv 1) (pa_cons (pe_int) (pa_nil))))))
    (pss_stop (pss_cons (ps_if (PW.pt (pw_and (pt_cmp o_gt (pv 3) (pe_int) (nomark _)) (pw_and1 (pt_cmp o_gt (pe_cb c_len T.n_len (by decide +kernel) (pa_cons (pv 2) (pa_nil))) (pe_int) (nomark _))))) (pss_cons (ps_set (i := 4) sc__law_leaf.nd rfl (Or.inl rfl) (pe_ix ix_any (pv 2) (pe_call (G__law_draw) (hr.mono (by decide)) T.g__law_draw T.k__law_draw passD (pa_cons (pv 0) (pa_cons (pv 1) (pa_cons (pe_cb c_len T.n_len (by decide +kernel) (pa_cons (pv 2) (pa_nil))) (pa_nil))))) (fun _ _ => rfl)))
    (pss_cons (ps_if (pt_cmp (o_eq hr.units) (pv 3) (pe_int) (nomark _)) (pss_one (ps_ret (pe_tup (pa_cons (pe_str) (pa_cons (pe_ix ix_any (pv 4) (pe_int) (fun _ _ => rfl)) (pa_nil)))))) (pss_nil))
    (pss_one (ps_ret (pe_tup (pa_cons (pe_str) (pa_cons (pe_ix ix_any (pv 4) (pe_int) (fun _ _ => rfl)) (pa_cons (pe_call (G__law_draw) (hr.mono (by decide)) T.g__law_draw T.k__law_draw passD (pa_cons (pv 0) (pa_cons (pv 1) (pa_cons (pe_op o_add (pe_ix ix_any (pv 4) (pe_int) (fun _ _ => rfl)) (pe_int)) (pa_nil))))) (pa_nil))))))))) (pss_nil))
    (pss_stop (pss_cons (ps_set (i := 5) sc__law_leaf.nd rfl (Or.inl rfl) (pe_lst (pa_nil)))
    (pss_stop (pss_cons (ps_set (i := 6) sc__law_leaf.nd rfl (Or.inl rfl) (pe_ix ix_any (pe_lst (pa_cons (pe_int) (pa_cons (pe_un u_neg (pe_int)) (pa_cons (pe_int) (pa_nil))))) (pe_call (G__law_draw) (hr.mono (by decide)) T.g__law_draw T.k__law_draw passD (pa_cons (pv 0) (pa_cons (pv 1) (pa_cons (pe_int) (pa_nil))))) (fun _ _ => rfl)))
    (pss_stop (pss_cons (ps_for ownD rfl (pi_seq (pv 2)) (pg_name (i := 4) sc__law_leaf.nd rfl (Or.inl rfl)) (pss_one (ps_if (pt_cmp o_lt (pe_call (G__law_draw) (hr.mono (by decide)) T.g__law_draw T.k__law_draw passD (pa_cons (pv 0) (pa_cons (pv 1) (pa_cons (pe_int) (pa_nil))))) (pe_int) (nomark _)) (pss_cons (ps_set (i := 7) sc__law_leaf.nd rfl (Or.inl rfl) (pe_ix ix_any (pe_lst (pa_cons (pe_int) (pa_cons (pe_un u_neg (pe_int)) (pa_cons (pe_int) (pa_cons (pe_int) (pa_cons (pe_un u_neg (pe_int)) (pa_cons (pe_int) (pa_cons (pe_int) (pa_cons (pe_un u_neg (pe_int)) (pa_cons (pe_un u_neg (pe_int)) (pa_nil))))))))))) (pe_call (G__law_draw) (hr.mono (by decide)) T.g__law_draw T.k__law_draw passD (pa_cons (pv 0) (pa_cons (pv 1) (pa_cons (pe_int) (pa_nil))))) (fun _ _ => rfl)))
    (pss_cons (ps_expr (pe_ml PySem.F.slot_list_append PySem.F.type_list_append m_app (pv 5) (pa_cons (pe_tup (pa_cons (pe_ix ix_any (pv 4) (pe_int) (fun _ _ => rfl)) (pa_cons (pv 7) (pa_nil)))) (pa_nil))))
    (pss_one (ps_set (i := 6) sc__law_leaf.nd rfl (Or.inl rfl) (pe_op o_add (pv 6) (pe_op o_mulA (pv 7) (pe_call (G__law_number) (hr.mono (by decide)) T.g__law_number T.k__law_number passD (pa_cons (pv 0) (pa_cons (pv 1) (pa_cons (pe_ix ix_any (pv 4) (pe_int) (fun _ _ => rfl)) (pa_nil))))))))))) (pss_nil))))
    (pss_stop (pss_one (ps_ret (pe_tup (pa_cons (pe_str) (pa_cons (pv 5) (pa_cons (pv 6) (pa_nil))))))))))))))))
theorem ok__law_recipe (T : T0 P K mg) : FR P w K mg base 5 (He.fAd K ("_law_recipe", none)) (sp__law_recipe K) := by
  obtain ⟨fd, F⟩ := T.F__law_recipe
  have G__law_draw := ok__law_draw (P := P) (w := w) (base := base) T
  have G__law_leaf := ok__law_leaf (P := P) (w := w) (base := base) T
  refine mk_fn F sc__law_recipe (fun vs H Q E h => by
    revert h; intro h; (repeat (first | (obtain ⟨rfl, _⟩ := h; exact rfl) | obtain ⟨_, h⟩ := h))) (fun _ _ _ _ _ _ us hl => match us, hl with | [_, _, _, _], _ => rfl) (t := t__law_recipe K) (fun cdv A outer s H E hr => ?_) (fun vs H Q E h => pure__law_recipe vs H Q E h)
  exact pss_cons (ps_set (i := 4) sc__law_recipe.nd rfl (Or.inl rfl) (pe_lst (pa_nil)))
    (pss_stop (pss_cons (ps_set (i := 5) sc__law_recipe.nd rfl (Or.inl rfl) (pe_lst (pa_nil)))
    (pss_stop (pss_cons (ps_for ownD rfl (pi_rng (by rfl) T.n_range (pa_cons (pe_op o_add (pe_int) (pe_call (G__law_draw) (hr.mono (by decide)) T.g__law_draw T.k__law_draw passD (pa_cons (pv 0) (pa_cons (pv 1) (pa_cons (pv 3) (pa_nil)))))) (pa_nil))) (pg_name (i := 6) sc__law_recipe.nd rfl (Or.inl rfl)) (pss_cons (ps_set (i := 7) sc__law_recipe.nd rfl (Or.inl rfl) (pe_call (G__law_draw) (hr.mono (by decide)) T.g__law_draw T.k__law_draw passD (pa_cons (pv 0) (pa_cons (pv 1) (pa_cons (pe_int) (pa_nil))))))
    (pss_stop (pss_one (ps_if (PW.pt (pw_and (pt_cmp o_gt (pv 7) (pe_int) (nomark _)) (pw_and1 (pt_cmp o_gt (pe_cb c_len T.n_len (by decide +kernel) (pa_cons (pv 5) (pa_nil))) (pe_int) (nomark _))))) (pss_cons (ps_expr (pe_ml PySem.F.slot_list_append PySem.F.type_list_append m_app (pv 4) (pa_cons (pe_ix ix_any (pe_lst (pa_cons (pe_tup (pa_cons (pe_str) (pa_nil))) (pa_cons (pe_tup (pa_cons (pe_str) (pa_nil))) (pa_nil)))) (pe_op o_sub (pv 7) (pe_int)) (fun _ _ => rfl)) (pa_nil))))
    (pss_cons (ps_set (i := 8) sc__law_recipe.nd rfl (Or.inl rfl) (pe_ml0 PySem.F.slot_list_pop PySem.F.type_list_pop m_pop (pv 5)))
    (pss_one (ps_asg (pe_op o_add (pe_op o_add (pe_ix ix_any (pv 5) (pe_un u_neg (pe_int)) (fun _ _ => rfl)) (pv 8)) (pe_int)) (pg_sub (pv 5) (pe_un u_neg (pe_int)) s_list))))) (pss_one (ps_if (PW.pt (pw_and (pt_cmp (o_eq hr.units) (pv 7) (pe_int) (nomark _)) (pw_and (pt_cmp o_gt (pe_cb c_len T.n_len (by decide +kernel) (pa_cons (pv 5) (pa_nil))) (pe_int) (nomark _)) (pw_and1 (pt_cmp o_lt (pe_cb (c_sum rfl) T.n_sum (by decide +kernel) (pa_cons (pv 5) (pa_nil))) (pe_int) (nomark _)))))) (pss_cons (ps_expr (pe_ml PySem.F.slot_list_append PySem.F.type_list_append m_app (pv 4) (pa_cons (pe_tup (pa_cons (pe_str) (pa_nil))) (pa_nil))))
    (pss_one (ps_expr (pe_ml PySem.F.slot_list_append PySem.F.type_list_append m_app (pv 5) (pa_cons (pe_ix ix_any (pv 5) (pe_un u_neg (pe_int)) (fun _ _ => rfl)) (pa_nil)))))) (pss_one (ps_if (PW.pt (pw_and (pt_cmp o_gt (pv 7) (pe_int) (nomark _)) (pw_and1 (pt_cmp o_gt (pe_cb c_len T.n_len (by decide +kernel) (pa_cons (pv 5) (pa_nil))) (pe_int) (nomark _))))) (pss_cons (ps_expr (pe_ml PySem.F.slot_list_append PySem.F.type_list_append m_app (pv 4) (pa_cons (pe_ix ix_any (pe_lst (pa_cons (pe_tup (pa_cons (pe_str) (pa_nil))) (pa_cons (pe_tup (pa_cons (pe_str) (pa_nil))) (pa_nil)))) (pe_op o_mod (pe_ct c_int T.n_int (by decide +kernel) (pa_cons (pv 7) (pa_nil))) (pe_int)) (fun _ _ => rfl)) (pa_nil))))
    (pss_one (ps_asg (pe_op o_add (pe_ix ix_any (pv 5) (pe_un u_neg (pe_int)) (fun _ _ => rfl)) (pe_int)) (pg_sub (pv 5) (pe_un u_neg (pe_int)) s_list)))) (pss_cons (ps_expr (pe_ml PySem.F.slot_list_append PySem.F.type_list_append m_app (pv 4) (pa_cons (pe_call (G__law_leaf) (hr.mono (by decide)) T.g__law_leaf T.k__law_leaf passD (pa_cons (pv 0) (pa_cons (pv 1) (pa_cons (pv 2) (pa_nil))))) (pa_nil))))
    (pss_one (ps_expr (pe_ml PySem.F.slot_list_append PySem.F.type_list_append m_app (pv 5) (pa_cons (pe_int) (pa_nil)))))))))))))))
    (pss_stop (pss_cons (ps_for ownD rfl (pi_rng (by rfl) T.n_range (pa_cons (pe_op o_sub (pe_cb c_len T.n_len (by decide +kernel) (pa_cons (pv 5) (pa_nil))) (pe_int)) (pa_nil))) (pg_name (i := 6) sc__law_recipe.nd rfl (Or.inl rfl)) (pss_one (ps_expr (pe_ml PySem.F.slot_list_append PySem.F.type_list_append m_app (pv 4) (pa_cons (pe_ix ix_any (pe_lst (pa_cons (pe_tup (pa_cons (pe_str) (pa_nil))) (pa_cons (pe_tup (pa_cons (pe_str) (pa_nil))) (pa_nil)))) (pe_call (G__law_draw) (hr.mono (by decide)) T.g__law_draw T.k__law_draw passD (pa_cons (pv 0) (pa_cons (pv 1) (pa_cons (pe_int) (pa_nil))))) (fun _ _ => rfl)) (pa_nil))))))
    (pss_stop (pss_one (ps_ret (pv 4))))))))))
theorem ok_Questiondd_initdd (T : T0 P K mg) : FR P w K mg base 1 (He.fAd K ("Question", some "__init__")) (sp_Questiondd_initdd K) := by
  obtain ⟨fd, F⟩ := T.F_Questiondd_initdd
  refine mk_fn F sc_Questiondd_initdd (fun vs H Q E h => by
    revert h; intro h; (repeat (first | (obtain ⟨rfl, _⟩ := h; exact rfl) | obtain ⟨_, h⟩ := h))) (fun _ _ _ _ _ _ us hl => match us, hl with | [_, _], _ => rfl) (t := t_Questiondd_initdd K) (fun cdv A outer s H E hr => ?_) (fun vs H Q E h => pure_Questiondd_initdd vs H Q E h)
  exact pss_one (ps_sto (pv 1) (pv 0))
theorem ok_Bothdd_initdd (T : T0 P K mg) : FR P w K mg base 3 (He.fAd K ("Both", some "__init__")) (sp_Bothdd_initdd K) := by
  have G_Questiondd_initdd := ok_Questiondd_initdd (P := P) (w := w) (base := base) T
  refine mk_fnS (ta := fun E => tCons (dTup K (tCons (dVar 1) (tCons (dVar 2) (tNil)))) (tNil)) (tr := fun E => stop (t_Bothdd_initdd_r K E)) T.S_Bothdd_initdd T.n_super sc_Bothdd_initdd (fun vs H Q E h => by
    revert h; intro h; (repeat (first | (obtain ⟨rfl, _⟩ := h; exact rfl) | obtain ⟨_, h⟩ := h))) (fun _ _ _ _ _ _ _ us hl => match us, hl with | [_, _, _], _ => rfl) (G_Questiondd_initdd.mono (by decide)) rfl ⟨_, rfl, rfl⟩ rfl (by decide +kernel) (fun _ => rfl) (fun _ => rfl) (fun _ => rfl) (fun _ => rfl) (fun cda cc A outer s H E hr => ?_) (fun vs H Q E h => pure_Bothdd_initdd vs H Q E h)
  exact ⟨pa_cons (pe_tup (pa_cons (pv 1) (pa_cons (pv 2) (pa_nil)))) (pa_nil), pss_stop (pss_cons (ps_sto (pv 1) (pv 0))
    (pss_stop (pss_one (ps_sto (pv 2) (pv 0)))))⟩
theorem ok_Questiondd_anddd (T : T0 P K mg) : FR P w K mg base 5 (He.fAd K ("Question", some "__and__")) (sp_Questiondd_anddd K) := by
  obtain ⟨fd, F⟩ := T.F_Questiondd_anddd
  have G_Bothdd_initdd := ok_Bothdd_initdd (P := P) (w := w) (base := base) T
  refine mk_fn F sc_Questiondd_anddd (fun vs H Q E h => by
    revert h; intro h; (repeat (first | (obtain ⟨rfl, _⟩ := h; exact rfl) | obtain ⟨_, h⟩ := h))) (fun _ _ _ _ _ _ us hl => match us, hl with | [_, _], _ => rfl) (t := t_Questiondd_anddd K) (fun cdv A outer s H E hr => ?_) (fun vs H Q E h => pure_Questiondd_anddd vs H Q E h)
  exact pss_one (ps_ret (pe_giv T.D_Both (pe_mk T.K_Both G_Bothdd_initdd (hr.mono (by decide)) T.g_Both passD (pa_cons (pv 0) (pa_cons (pv 1) (pa_nil))))))
theorem ok_dynS_ddanddd (T : T0 P K mg) : DynF P w K mg base 5 csT "__and__" (fun _ => sp_Questiondd_anddd K) := by
  intro c hc
  simp only [csT, List.mem_cons, List.not_mem_nil, or_false] at hc
  rcases hc with rfl | rfl | rfl | rfl | rfl | rfl | rfl
  · exact ⟨T.D_AtMost.cl, _, T.M_AtMost_ddanddd, by rw [T.Q_AtMost_ddanddd]; exact ok_Questiondd_anddd T⟩
  · exact ⟨T.D_Present.cl, _, T.M_Present_ddanddd, by rw [T.Q_Present_ddanddd]; exact ok_Questiondd_anddd T⟩
  · exact ⟨T.D_HasBit.cl, _, T.M_HasBit_ddanddd, by rw [T.Q_HasBit_ddanddd]; exact ok_Questiondd_anddd T⟩
  · exact ⟨T.D_Both.cl, _, T.M_Both_ddanddd, by rw [T.Q_Both_ddanddd]; exact ok_Questiondd_anddd T⟩
  · exact ⟨T.D_Either.cl, _, T.M_Either_ddanddd, by rw [T.Q_Either_ddanddd]; exact ok_Questiondd_anddd T⟩
  · exact ⟨T.D_Opposite.cl, _, T.M_Opposite_ddanddd, by rw [T.Q_Opposite_ddanddd]; exact ok_Questiondd_anddd T⟩
  · exact ⟨T.D_Surely.cl, _, T.M_Surely_ddanddd, by rw [T.Q_Surely_ddanddd]; exact ok_Questiondd_anddd T⟩
theorem ok_Eitherdd_initdd (T : T0 P K mg) : FR P w K mg base 3 (He.fAd K ("Either", some "__init__")) (sp_Eitherdd_initdd K) := by
  have G_Questiondd_initdd := ok_Questiondd_initdd (P := P) (w := w) (base := base) T
  refine mk_fnS (ta := fun E => tCons (dTup K (tCons (dVar 1) (tCons (dVar 2) (tNil)))) (tNil)) (tr := fun E => stop (t_Eitherdd_initdd_r K E)) T.S_Eitherdd_initdd T.n_super sc_Eitherdd_initdd (fun vs H Q E h => by
    revert h; intro h; (repeat (first | (obtain ⟨rfl, _⟩ := h; exact rfl) | obtain ⟨_, h⟩ := h))) (fun _ _ _ _ _ _ _ us hl => match us, hl with | [_, _, _], _ => rfl) (G_Questiondd_initdd.mono (by decide)) rfl ⟨_, rfl, rfl⟩ rfl (by decide +kernel) (fun _ => rfl) (fun _ => rfl) (fun _ => rfl) (fun _ => rfl) (fun cda cc A outer s H E hr => ?_) (fun vs H Q E h => pure_Eitherdd_initdd vs H Q E h)
  exact ⟨pa_cons (pe_tup (pa_cons (pv 1) (pa_cons (pv 2) (pa_nil)))) (pa_nil), pss_stop (pss_cons (ps_sto (pv 1) (pv 0))
    (pss_stop (pss_one (ps_sto (pv 2) (pv 0)))))⟩
theorem ok_Questiondd_ordd (T : T0 P K mg) : FR P w K mg base 5 (He.fAd K ("Question", some "__or__")) (sp_Questiondd_ordd K) := by
  obtain ⟨fd, F⟩ := T.F_Questiondd_ordd
  have G_Eitherdd_initdd := ok_Eitherdd_initdd (P := P) (w := w) (base := base) T
  refine mk_fn F sc_Questiondd_ordd (fun vs H Q E h => by
    revert h; intro h; (repeat (first | (obtain ⟨rfl, _⟩ := h; exact rfl) | obtain ⟨_, h⟩ := h))) (fun _ _ _ _ _ _ us hl => match us, hl with | [_, _], _ => rfl) (t := t_Questiondd_ordd K) (fun cdv A outer s H E hr => ?_) (fun vs H Q E h => pure_Questiondd_ordd vs H Q E h)
  exact pss_one (ps_ret (pe_giv T.D_Either (pe_mk T.K_Either G_Eitherdd_initdd (hr.mono (by decide)) T.g_Either passD (pa_cons (pv 0) (pa_cons (pv 1) (pa_nil))))))
theorem ok_dynS_ddordd (T : T0 P K mg) : DynF P w K mg base 5 csT "__or__" (fun _ => sp_Questiondd_ordd K) := by
  intro c hc
  simp only [csT, List.mem_cons, List.not_mem_nil, or_false] at hc
  rcases hc with rfl | rfl | rfl | rfl | rfl | rfl | rfl
  · exact ⟨T.D_AtMost.cl, _, T.M_AtMost_ddordd, by rw [T.Q_AtMost_ddordd]; exact ok_Questiondd_ordd T⟩
  · exact ⟨T.D_Present.cl, _, T.M_Present_ddordd, by rw [T.Q_Present_ddordd]; exact ok_Questiondd_ordd T⟩
  · exact ⟨T.D_HasBit.cl, _, T.M_HasBit_ddordd, by rw [T.Q_HasBit_ddordd]; exact ok_Questiondd_ordd T⟩
  · exact ⟨T.D_Both.cl, _, T.M_Both_ddordd, by rw [T.Q_Both_ddordd]; exact ok_Questiondd_ordd T⟩
  · exact ⟨T.D_Either.cl, _, T.M_Either_ddordd, by rw [T.Q_Either_ddordd]; exact ok_Questiondd_ordd T⟩
  · exact ⟨T.D_Opposite.cl, _, T.M_Opposite_ddordd, by rw [T.Q_Opposite_ddordd]; exact ok_Questiondd_ordd T⟩
  · exact ⟨T.D_Surely.cl, _, T.M_Surely_ddordd, by rw [T.Q_Surely_ddordd]; exact ok_Questiondd_ordd T⟩
theorem ok_Oppositedd_initdd (T : T0 P K mg) : FR P w K mg base 3 (He.fAd K ("Opposite", some "__init__")) (sp_Oppositedd_initdd K) := by
  have G_Questiondd_initdd := ok_Questiondd_initdd (P := P) (w := w) (base := base) T
  refine mk_fnS (ta := fun E => tCons (dTup K (tCons (dVar 1) (tNil))) (tNil)) (tr := fun E => stop (t_Oppositedd_initdd_r K E)) T.S_Oppositedd_initdd T.n_super sc_Oppositedd_initdd (fun vs H Q E h => by
    revert h; intro h; (repeat (first | (obtain ⟨rfl, _⟩ := h; exact rfl) | obtain ⟨_, h⟩ := h))) (fun _ _ _ _ _ _ _ us hl => match us, hl with | [_, _], _ => rfl) (G_Questiondd_initdd.mono (by decide)) rfl ⟨_, rfl, rfl⟩ rfl (by decide +kernel) (fun _ => rfl) (fun _ => rfl) (fun _ => rfl) (fun _ => rfl) (fun cda cc A outer s H E hr => ?_) (fun vs H Q E h => pure_Oppositedd_initdd vs H Q E h)
  exact ⟨pa_cons (pe_tup (pa_cons (pv 1) (pa_nil))) (pa_nil), pss_stop (pss_one (ps_sto (pv 1) (pv 0)))⟩
theorem ok_Questiondd_invertdd (T : T0 P K mg) : FR P w K mg base 5 (He.fAd K ("Question", some "__invert__")) (sp_Questiondd_invertdd K) := by
  obtain ⟨fd, F⟩ := T.F_Questiondd_invertdd
  have G_Oppositedd_initdd := ok_Oppositedd_initdd (P := P) (w := w) (base := base) T
  refine mk_fn F sc_Questiondd_invertdd (fun vs H Q E h => by
    revert h; intro h; (repeat (first | (obtain ⟨rfl, _⟩ := h; exact rfl) | obtain ⟨_, h⟩ := h))) (fun _ _ _ _ _ _ us hl => match us, hl with | [_], _ => rfl) (t := t_Questiondd_invertdd K) (fun cdv A outer s H E hr => ?_) (fun vs H Q E h => pure_Questiondd_invertdd vs H Q E h)
  exact pss_one (ps_ret (pe_giv T.D_Opposite (pe_mk T.K_Opposite G_Oppositedd_initdd (hr.mono (by decide)) T.g_Opposite passD (pa_cons (pv 0) (pa_nil)))))
theorem ok_dynS_ddinvertdd (T : T0 P K mg) : DynF P w K mg base 5 csT "__invert__" (fun _ => sp_Questiondd_invertdd K) := by
  intro c hc
  simp only [csT, List.mem_cons, List.not_mem_nil, or_false] at hc
  rcases hc with rfl | rfl | rfl | rfl | rfl | rfl | rfl
  · exact ⟨T.D_AtMost.cl, _, T.M_AtMost_ddinvertdd, by rw [T.Q_AtMost_ddinvertdd]; exact ok_Questiondd_invertdd T⟩
  · exact ⟨T.D_Present.cl, _, T.M_Present_ddinvertdd, by rw [T.Q_Present_ddinvertdd]; exact ok_Questiondd_invertdd T⟩
  · exact ⟨T.D_HasBit.cl, _, T.M_HasBit_ddinvertdd, by rw [T.Q_HasBit_ddinvertdd]; exact ok_Questiondd_invertdd T⟩
  · exact ⟨T.D_Both.cl, _, T.M_Both_ddinvertdd, by rw [T.Q_Both_ddinvertdd]; exact ok_Questiondd_invertdd T⟩
  · exact ⟨T.D_Either.cl, _, T.M_Either_ddinvertdd, by rw [T.Q_Either_ddinvertdd]; exact ok_Questiondd_invertdd T⟩
  · exact ⟨T.D_Opposite.cl, _, T.M_Opposite_ddinvertdd, by rw [T.Q_Opposite_ddinvertdd]; exact ok_Questiondd_invertdd T⟩
  · exact ⟨T.D_Surely.cl, _, T.M_Surely_ddinvertdd, by rw [T.Q_Surely_ddinvertdd]; exact ok_Questiondd_invertdd T⟩
theorem ok_Surelydd_initdd (T : T0 P K mg) : FR P w K mg base 3 (He.fAd K ("Surely", some "__init__")) (sp_Surelydd_initdd K) := by
  have G_Questiondd_initdd := ok_Questiondd_initdd (P := P) (w := w) (base := base) T
  refine mk_fnS (ta := fun E => tCons (dTup K (tCons (dVar 1) (tNil))) (tNil)) (tr := fun E => stop (t_Surelydd_initdd_r K E)) T.S_Surelydd_initdd T.n_super sc_Surelydd_initdd (fun vs H Q E h => by
    revert h; intro h; (repeat (first | (obtain ⟨rfl, _⟩ := h; exact rfl) | obtain ⟨_, h⟩ := h))) (fun _ _ _ _ _ _ _ us hl => match us, hl with | [_, _], _ => rfl) (G_Questiondd_initdd.mono (by decide)) rfl ⟨_, rfl, rfl⟩ rfl (by decide +kernel) (fun _ => rfl) (fun _ => rfl) (fun _ => rfl) (fun _ => rfl) (fun cda cc A outer s H E hr => ?_) (fun vs H Q E h => pure_Surelydd_initdd vs H Q E h)
  exact ⟨pa_cons (pe_tup (pa_cons (pv 1) (pa_nil))) (pa_nil), pss_stop (pss_one (ps_sto (pv 1) (pv 0)))⟩
theorem ok_Question_surely (T : T0 P K mg) : FR P w K mg base 5 (He.fAd K ("Question", some "surely")) (sp_Question_surely K) := by
  obtain ⟨fd, F⟩ := T.F_Question_surely
  have G_Surelydd_initdd := ok_Surelydd_initdd (P := P) (w := w) (base := base) T
  refine mk_fn F sc_Question_surely (fun vs H Q E h => by
    revert h; intro h; (repeat (first | (obtain ⟨rfl, _⟩ := h; exact rfl) | obtain ⟨_, h⟩ := h))) (fun _ _ _ _ _ _ us hl => match us, hl with | [_], _ => rfl) (t := t_Question_surely K) (fun cdv A outer s H E hr => ?_) (fun vs H Q E h => pure_Question_surely vs H Q E h)
  exact pss_one (ps_ret (pe_giv T.D_Surely (pe_mk T.K_Surely G_Surelydd_initdd (hr.mono (by decide)) T.g_Surely passD (pa_cons (pv 0) (pa_nil)))))
theorem ok_dynS_surely (T : T0 P K mg) : DynF P w K mg base 5 csT "surely" (fun _ => sp_Question_surely K) := by
  intro c hc
  simp only [csT, List.mem_cons, List.not_mem_nil, or_false] at hc
  rcases hc with rfl | rfl | rfl | rfl | rfl | rfl | rfl
  · exact ⟨T.D_AtMost.cl, _, T.M_AtMost_surely, by rw [T.Q_AtMost_surely]; exact ok_Question_surely T⟩
  · exact ⟨T.D_Present.cl, _, T.M_Present_surely, by rw [T.Q_Present_surely]; exact ok_Question_surely T⟩
  · exact ⟨T.D_HasBit.cl, _, T.M_HasBit_surely, by rw [T.Q_HasBit_surely]; exact ok_Question_surely T⟩
  · exact ⟨T.D_Both.cl, _, T.M_Both_surely, by rw [T.Q_Both_surely]; exact ok_Question_surely T⟩
  · exact ⟨T.D_Either.cl, _, T.M_Either_surely, by rw [T.Q_Either_surely]; exact ok_Question_surely T⟩
  · exact ⟨T.D_Opposite.cl, _, T.M_Opposite_surely, by rw [T.Q_Opposite_surely]; exact ok_Question_surely T⟩
  · exact ⟨T.D_Surely.cl, _, T.M_Surely_surely, by rw [T.Q_Surely_surely]; exact ok_Question_surely T⟩
theorem ok_Presentdd_initdd (T : T0 P K mg) : FR P w K mg base 3 (He.fAd K ("Present", some "__init__")) (sp_Presentdd_initdd K) := by
  have G_Questiondd_initdd := ok_Questiondd_initdd (P := P) (w := w) (base := base) T
  refine mk_fnS (ta := fun E => tCons (dTup K (tNil)) (tNil)) (tr := fun E => stop (t_Presentdd_initdd_r K E)) T.S_Presentdd_initdd T.n_super sc_Presentdd_initdd (fun vs H Q E h => by
    revert h; intro h; (repeat (first | (obtain ⟨rfl, _⟩ := h; exact rfl) | obtain ⟨_, h⟩ := h))) (fun _ _ _ _ _ _ _ us hl => match us, hl with | [_, _], _ => rfl) (G_Questiondd_initdd.mono (by decide)) rfl ⟨_, rfl, rfl⟩ rfl (by decide +kernel) (fun _ => rfl) (fun _ => rfl) (fun _ => rfl) (fun _ => rfl) (fun cda cc A outer s H E hr => ?_) (fun vs H Q E h => pure_Presentdd_initdd vs H Q E h)
  exact ⟨pa_cons (pe_tup (pa_nil)) (pa_nil), pss_stop (pss_one (ps_sto (pv 1) (pv 0)))⟩
theorem ok_HasBitdd_initdd (T : T0 P K mg) : FR P w K mg base 3 (He.fAd K ("HasBit", some "__init__")) (sp_HasBitdd_initdd K) := by
  have G_Questiondd_initdd := ok_Questiondd_initdd (P := P) (w := w) (base := base) T
  refine mk_fnS (ta := fun E => tCons (dTup K (tNil)) (tNil)) (tr := fun E => stop (t_HasBitdd_initdd_r K E)) T.S_HasBitdd_initdd T.n_super sc_HasBitdd_initdd (fun vs H Q E h => by
    revert h; intro h; (repeat (first | (obtain ⟨rfl, _⟩ := h; exact rfl) | obtain ⟨_, h⟩ := h))) (fun _ _ _ _ _ _ _ us hl => match us, hl with | [_, _, _], _ => rfl) (G_Questiondd_initdd.mono (by decide)) rfl ⟨_, rfl, rfl⟩ rfl (by decide +kernel) (fun _ => rfl) (fun _ => rfl) (fun _ => rfl) (fun _ => rfl) (fun cda cc A outer s H E hr => ?_) (fun vs H Q E h => pure_HasBitdd_initdd vs H Q E h)
  exact ⟨pa_cons (pe_tup (pa_nil)) (pa_nil), pss_stop (pss_cons (ps_sto (pv 1) (pv 0))
    (pss_stop (pss_one (ps_sto (pv 2) (pv 0)))))⟩
theorem okd_Formdd_initdd (T : T0 P K mg) {fd : FuncData} (F : FunD K "__init__" "Form.__init__" (defArgs s_Formdd_initdd) (defBody s_Formdd_initdd) (defScope s_Formdd_initdd) [V.int 0] [] (He.fAd K ("Form", some "__init__")) fd) {ex : List V} (hb : ∃ ds, Vals ex ds ∧ Binds K fd ["self", "terms", "offset"] ds) : FR P w K mg base 1 (He.fAd K ("Form", some "__init__")) (spD (sp_Formdd_initdd K) ex) := by
  refine mk_fnD F sc_Formdd_initdd (fun vs H Q E h => by
    revert h; intro h; (repeat (first | (obtain ⟨rfl, _⟩ := h; exact rfl) | obtain ⟨_, h⟩ := h))) hb (t := t_Formdd_initdd K) (fun cdv A outer s H E hr => ?_) (fun vs H Q E h => pure_Formdd_initdd vs H Q E h)
  exact pss_cons (ps_sto (pe_ct c_tupleF T.n_tuple (by decide +kernel) (pa_cons (pe_lc (own := [("name", 3)]) rfl sc_Formdd_initdd.nd (pi_seq (pe_cb (c_sortedD rfl) T.n_sorted (by decide +kernel) (pa_cons (pv 1) (pa_nil)))) (blkOk_by (own := [("name", 3)]) (N := ["self", "terms", "offset", "name"]) (sc := defScope s_Formdd_initdd) (by decide +kernel)) (fun _ _ _ _ _ => pg_name (i := 3) sc_Formdd_initdd.nd rfl (Or.inl rfl)) (fun _ _ _ _ _ => pts_nil) (fun _ _ _ _ _ => pe_tup (pa_cons (pv 3) (pa_cons (pe_ix (ix_dict hr.units) (pv 1) (pv 3) (fun _ _ => rfl)) (pa_nil))))) (pa_nil))) (pv 0))
    (pss_stop (pss_one (ps_sto (pv 2) (pv 0))))
theorem ok_Formdd_initdd_2 (T : T0 P K mg) : FR P w K mg base 1 (He.fAd K ("Form", some "__init__")) (spD (sp_Formdd_initdd K) [V.int 0]) := by
  obtain ⟨fd, F⟩ := T.F_Formdd_initdd
  have hb := FunD.binds1 (ps := ["self", "terms", "offset"]) F 2 0 (List.cons_ne_nil _ _) rfl fun T kV doc pm an cdv ct us its l1 l2 => match us, its, l1, l2 with | [_, _], [_], _, _ => ⟨_, rfl, rfl⟩
  exact  (okd_Formdd_initdd (P := P) (w := w) (base := base) T F hb)
theorem ok_AtMostdd_initdd (T : T0 P K mg) : FR P w K mg base 3 (He.fAd K ("AtMost", some "__init__")) (sp_AtMostdd_initdd K) := by
  have G_Questiondd_initdd := ok_Questiondd_initdd (P := P) (w := w) (base := base) T
  refine mk_fnS (ta := fun E => tCons (dTup K (tNil)) (tNil)) (tr := fun E => stop (t_AtMostdd_initdd_r K E)) T.S_AtMostdd_initdd T.n_super sc_AtMostdd_initdd (fun vs H Q E h => by
    revert h; intro h; (repeat (first | (obtain ⟨rfl, _⟩ := h; exact rfl) | obtain ⟨_, h⟩ := h))) (fun _ _ _ _ _ _ _ us hl => match us, hl with | [_, _, _], _ => rfl) (G_Questiondd_initdd.mono (by decide)) rfl ⟨_, rfl, rfl⟩ rfl (by decide +kernel) (fun _ => rfl) (fun _ => rfl) (fun _ => rfl) (fun _ => rfl) (fun cda cc A outer s H E hr => ?_) (fun vs H Q E h => pure_AtMostdd_initdd vs H Q E h)
  exact ⟨pa_cons (pe_tup (pa_nil)) (pa_nil), pss_stop (pss_cons (ps_sto (pe_at (pv 1)) (pv 0))
    (pss_stop (pss_one (ps_sto (pe_op o_sub (pv 2) (pe_at (pv 1))) (pv 0)))))⟩
theorem ok__law_question (T : T0 P K mg) : FR P w K mg base 9 (He.fAd K ("_law_question", none)) (sp__law_question K) := by
  obtain ⟨fd, F⟩ := T.F__law_question
  have G_AtMostdd_initdd := ok_AtMostdd_initdd (P := P) (w := w) (base := base) T
  have G_Formdd_initdd_2 := ok_Formdd_initdd_2 (P := P) (w := w) (base := base) T
  have G_HasBitdd_initdd := ok_HasBitdd_initdd (P := P) (w := w) (base := base) T
  have G_Presentdd_initdd := ok_Presentdd_initdd (P := P) (w := w) (base := base) T
  have G_dynS_ddanddd := ok_dynS_ddanddd (P := P) (w := w) (base := base) T
  have G_dynS_ddinvertdd := ok_dynS_ddinvertdd (P := P) (w := w) (base := base) T
  have G_dynS_ddordd := ok_dynS_ddordd (P := P) (w := w) (base := base) T
  have G_dynS_surely := ok_dynS_surely (P := P) (w := w) (base := base) T
  refine mk_fn F sc__law_question (fun vs H Q E h => by
    revert h; intro h; (repeat (first | (obtain ⟨rfl, _⟩ := h; exact rfl) | obtain ⟨_, h⟩ := h))) (fun _ _ _ _ _ _ us hl => match us, hl with | [_], _ => rfl) (t := t__law_question K) (fun cdv A outer s H E hr => ?_) (fun vs H Q E h => pure__law_question vs H Q E h)
  exact pss_cons (ps_set (i := 1) sc__law_question.nd rfl (Or.inl rfl) (pe_lst (pa_nil)))
    (pss_stop (pss_cons (ps_for ownD rfl (pi_seq (pv 0)) (pg_name (i := 2) sc__law_question.nd rfl (Or.inl rfl)) (pss_one (ps_if (pt_cmp (o_eq hr.units) (pe_ix (ix_dict hr.units) (pv 2) (pe_int) (fun _ _ => rfl)) (pe_str) (nomark _)) (pss_cons (ps_set (i := 3) sc__law_question.nd rfl (Or.inl rfl) (pe_ml0 PySem.F.slot_list_pop PySem.F.type_list_pop m_pop (pv 1)))
    (pss_one (ps_asg (pe_op (op_dynB (op := .BitAnd) T.NF_and G_dynS_ddanddd (hr.mono (by decide)) passD o_and) (pe_ix (ix_dict hr.units) (pv 1) (pe_un u_neg (pe_int)) (fun _ _ => rfl)) (pv 3)) (pg_sub (pv 1) (pe_un u_neg (pe_int)) (s_dict hr.units))))) (pss_one (ps_if (pt_cmp (o_eq hr.units) (pe_ix (ix_dict hr.units) (pv 2) (pe_int) (fun _ _ => rfl)) (pe_str) (nomark _)) (pss_cons (ps_set (i := 3) sc__law_question.nd rfl (Or.inl rfl) (pe_ml0 PySem.F.slot_list_pop PySem.F.type_list_pop m_pop (pv 1)))
    (pss_one (ps_asg (pe_op (op_dynB (op := .BitOr) T.NF_or G_dynS_ddordd (hr.mono (by decide)) passD o_or) (pe_ix (ix_dict hr.units) (pv 1) (pe_un u_neg (pe_int)) (fun _ _ => rfl)) (pv 3)) (pg_sub (pv 1) (pe_un u_neg (pe_int)) (s_dict hr.units))))) (pss_one (ps_if (pt_cmp (o_eq hr.units) (pe_ix (ix_dict hr.units) (pv 2) (pe_int) (fun _ _ => rfl)) (pe_str) (nomark _)) (pss_one (ps_asg (pe_un (u_invDyn G_dynS_ddinvertdd (hr.mono (by decide)) passD) (pe_ix (ix_dict hr.units) (pv 1) (pe_un u_neg (pe_int)) (fun _ _ => rfl))) (pg_sub (pv 1) (pe_un u_neg (pe_int)) (s_dict hr.units)))) (pss_one (ps_if (pt_cmp (o_eq hr.units) (pe_ix (ix_dict hr.units) (pv 2) (pe_int) (fun _ _ => rfl)) (pe_str) (nomark _)) (pss_one (ps_asg (pe_dyn0 G_dynS_surely (hr.mono (by decide)) passD (pe_ix (ix_dict hr.units) (pv 1) (pe_un u_neg (pe_int)) (fun _ _ => rfl))) (pg_sub (pv 1) (pe_un u_neg (pe_int)) (s_dict hr.units)))) (pss_one (ps_if (pt_cmp (o_eq hr.units) (pe_ix (ix_dict hr.units) (pv 2) (pe_int) (fun _ _ => rfl)) (pe_str) (nomark _)) (pss_one (ps_expr (pe_ml PySem.F.slot_list_append PySem.F.type_list_append m_app (pv 1) (pa_cons (pe_ix (ix_dict hr.units) (pv 1) (pe_un u_neg (pe_int)) (fun _ _ => rfl)) (pa_nil))))) (pss_one (ps_if (pt_cmp (o_eq hr.units) (pe_ix (ix_dict hr.units) (pv 2) (pe_int) (fun _ _ => rfl)) (pe_str) (nomark _)) (pss_one (ps_expr (pe_ml PySem.F.slot_list_append PySem.F.type_list_append m_app (pv 1) (pa_cons (pe_giv T.D_Present (pe_mk T.K_Present G_Presentdd_initdd (hr.mono (by decide)) T.g_Present passD (pa_cons (pe_ix (ix_dict hr.units) (pv 2) (pe_int) (fun _ _ => rfl)) (pa_nil)))) (pa_nil))))) (pss_one (ps_if (pt_cmp (o_eq hr.units) (pe_ix (ix_dict hr.units) (pv 2) (pe_int) (fun _ _ => rfl)) (pe_str) (nomark _)) (pss_one (ps_expr (pe_ml PySem.F.slot_list_append PySem.F.type_list_append m_app (pv 1) (pa_cons (pe_giv T.D_HasBit (pe_mk T.K_HasBit G_HasBitdd_initdd (hr.mono (by decide)) T.g_HasBit passD (pa_cons (pe_ix (ix_dict hr.units) (pv 2) (pe_int) (fun _ _ => rfl)) (pa_cons (pe_ix (ix_dict hr.units) (pv 2) (pe_int) (fun _ _ => rfl)) (pa_nil))))) (pa_nil))))) (pss_cons (ps_set (i := 4) sc__law_question.nd rfl (Or.inl rfl) (pe_newK))
    (pss_cons (ps_for ownD rfl (pi_seq (pe_ix (ix_dict hr.units) (pv 2) (pe_int) (fun _ _ => rfl))) (pg_name (i := 5) sc__law_question.nd rfl (Or.inl rfl)) (pss_one (ps_asg (pe_ix (ix_dict hr.units) (pv 5) (pe_int) (fun _ _ => rfl)) (pg_sub (pv 4) (pe_ix (ix_dict hr.units) (pv 5) (pe_int) (fun _ _ => rfl)) (s_dict hr.units)))))
    (pss_one (ps_expr (pe_ml PySem.F.slot_list_append PySem.F.type_list_append m_app (pv 1) (pa_cons (pe_giv T.D_AtMost (pe_mk T.K_AtMost G_AtMostdd_initdd (hr.mono (by decide)) T.g_AtMost passD (pa_cons (pe_giv T.C_Form (pe_mk T.K_Form G_Formdd_initdd_2 (hr.mono (by decide)) T.g_Form passD (pa_cons (pv 4) (pa_nil)))) (pa_cons (pe_ix (ix_dict hr.units) (pv 2) (pe_int) (fun _ _ => rfl)) (pa_nil))))) (pa_nil))))))))))))))))))))))
    (pss_stop (pss_one (ps_ret (pe_ix (ix_dict hr.units) (pv 1) (pe_un u_neg (pe_int)) (fun _ _ => rfl)))))))
theorem ok_AtMost_names_AtMost (T : T0 P K mg) (n : Nat) (G_dyn_names : DynF P w K mg base (4 * n) csT "names" (sp_names K n)) : FR P w K mg base (4 * n + 4) (He.fAd K ("AtMost", some "names")) (sp_names K (n + 1) "AtMost") := by
  obtain ⟨fd, F⟩ := T.F_AtMost_names
  refine FnR.mono (mk_fn (k := 4 * n + 3) F sc_AtMost_names (fun vs H Q E h => by
    revert h; intro h; (repeat (first | (obtain ⟨rfl, _⟩ := h; exact rfl) | obtain ⟨_, h⟩ := h))) (fun _ _ _ _ _ _ us hl => match us, hl with | [_], _ => rfl) (t := fun E => t_AtMost_names K E n) (fun cdv A outer s H E hr => ?_) (fun vs H Q E h => pure_AtMost_names n vs H Q E h)) (by omega)
  exact pss_one (ps_ret (pe_lc (own := [("name", 1), ("_", 2)]) rfl sc_AtMost_names.nd (pi_seq (pe_at (pv 0))) (blkOk_by (own := [("name", 1), ("_", 2)]) (N := ["self", "name", "_"]) (sc := defScope s_AtMost_names) (by decide +kernel)) (fun _ _ _ _ _ => pg_tup rfl (pgs_cons (pg_name (i := 1) sc_AtMost_names.nd rfl (Or.inl rfl)) (pgs_cons (pg_name (i := 2) sc_AtMost_names.nd rfl (Or.inl rfl)) (pgs_nil)))) (fun _ _ _ _ _ => pts_nil) (fun _ _ _ _ _ => pv 1)))
theorem ok_Present_names_Present (T : T0 P K mg) (n : Nat) (G_dyn_names : DynF P w K mg base (4 * n) csT "names" (sp_names K n)) : FR P w K mg base (4 * n + 4) (He.fAd K ("Present", some "names")) (sp_names K (n + 1) "Present") := by
  obtain ⟨fd, F⟩ := T.F_Present_names
  refine FnR.mono (mk_fn (k := 4 * n + 3) F sc_Present_names (fun vs H Q E h => by
    revert h; intro h; (repeat (first | (obtain ⟨rfl, _⟩ := h; exact rfl) | obtain ⟨_, h⟩ := h))) (fun _ _ _ _ _ _ us hl => match us, hl with | [_], _ => rfl) (t := fun E => t_Present_names K E n) (fun cdv A outer s H E hr => ?_) (fun vs H Q E h => pure_Present_names n vs H Q E h)) (by omega)
  exact pss_one (ps_ret (pe_lst (pa_cons (pe_at (pv 0)) (pa_nil))))
theorem ok_HasBit_names_HasBit (T : T0 P K mg) (n : Nat) (G_dyn_names : DynF P w K mg base (4 * n) csT "names" (sp_names K n)) : FR P w K mg base (4 * n + 4) (He.fAd K ("HasBit", some "names")) (sp_names K (n + 1) "HasBit") := by
  obtain ⟨fd, F⟩ := T.F_HasBit_names
  refine FnR.mono (mk_fn (k := 4 * n + 3) F sc_HasBit_names (fun vs H Q E h => by
    revert h; intro h; (repeat (first | (obtain ⟨rfl, _⟩ := h; exact rfl) | obtain ⟨_, h⟩ := h))) (fun _ _ _ _ _ _ us hl => match us, hl with | [_], _ => rfl) (t := fun E => t_HasBit_names K E n) (fun cdv A outer s H E hr => ?_) (fun vs H Q E h => pure_HasBit_names n vs H Q E h)) (by omega)
  exact pss_one (ps_ret (pe_lst (pa_cons (pe_at (pv 0)) (pa_nil))))
theorem ok_Question_names_Both (T : T0 P K mg) (n : Nat) (G_dyn_names : DynF P w K mg base (4 * n) csT "names" (sp_names K n)) : FR P w K mg base (4 * n + 4) (He.fAd K ("Question", some "names")) (sp_names K (n + 1) "Both") := by
  obtain ⟨fd, F⟩ := T.F_Question_names
  refine FnR.mono (mk_fn (k := 4 * n + 3) F sc_Question_names (fun vs H Q E h => by
    revert h; intro h; (repeat (first | (obtain ⟨rfl, _⟩ := h; exact rfl) | obtain ⟨_, h⟩ := h))) (fun _ _ _ _ _ _ us hl => match us, hl with | [_], _ => rfl) (t := fun E => t_Question_names K E n) (fun cdv A outer s H E hr => ?_) (fun vs H Q E h => pure_Question_names n "Both" (by decide) vs H Q E h)) (by omega)
  exact pss_cons (ps_set (i := 1) sc_Question_names.nd rfl (Or.inl rfl) (pe_lst (pa_nil)))
    (pss_stop (pss_cons (ps_for ownD rfl (pi_seq (pe_at (pv 0))) (pg_name (i := 2) sc_Question_names.nd rfl (Or.inl rfl)) (pss_one (ps_expr (pe_ml PySem.F.slot_list_extend PySem.F.type_list_extend m_ext (pv 1) (pa_cons (pe_dyn0 G_dyn_names (hr.mono (by omega)) passD (pv 2)) (pa_nil))))))
    (pss_stop (pss_one (ps_ret (pe_ssetS rfl T.n_sorted T.n_set (by decide +kernel) (by decide +kernel) (pv 1)))))))
theorem ok_Question_names_Either (T : T0 P K mg) (n : Nat) (G_dyn_names : DynF P w K mg base (4 * n) csT "names" (sp_names K n)) : FR P w K mg base (4 * n + 4) (He.fAd K ("Question", some "names")) (sp_names K (n + 1) "Either") := by
  obtain ⟨fd, F⟩ := T.F_Question_names
  refine FnR.mono (mk_fn (k := 4 * n + 3) F sc_Question_names (fun vs H Q E h => by
    revert h; intro h; (repeat (first | (obtain ⟨rfl, _⟩ := h; exact rfl) | obtain ⟨_, h⟩ := h))) (fun _ _ _ _ _ _ us hl => match us, hl with | [_], _ => rfl) (t := fun E => t_Question_names K E n) (fun cdv A outer s H E hr => ?_) (fun vs H Q E h => pure_Question_names n "Either" (by decide) vs H Q E h)) (by omega)
  exact pss_cons (ps_set (i := 1) sc_Question_names.nd rfl (Or.inl rfl) (pe_lst (pa_nil)))
    (pss_stop (pss_cons (ps_for ownD rfl (pi_seq (pe_at (pv 0))) (pg_name (i := 2) sc_Question_names.nd rfl (Or.inl rfl)) (pss_one (ps_expr (pe_ml PySem.F.slot_list_extend PySem.F.type_list_extend m_ext (pv 1) (pa_cons (pe_dyn0 G_dyn_names (hr.mono (by omega)) passD (pv 2)) (pa_nil))))))
    (pss_stop (pss_one (ps_ret (pe_ssetS rfl T.n_sorted T.n_set (by decide +kernel) (by decide +kernel) (pv 1)))))))
theorem ok_Question_names_Opposite (T : T0 P K mg) (n : Nat) (G_dyn_names : DynF P w K mg base (4 * n) csT "names" (sp_names K n)) : FR P w K mg base (4 * n + 4) (He.fAd K ("Question", some "names")) (sp_names K (n + 1) "Opposite") := by
  obtain ⟨fd, F⟩ := T.F_Question_names
  refine FnR.mono (mk_fn (k := 4 * n + 3) F sc_Question_names (fun vs H Q E h => by
    revert h; intro h; (repeat (first | (obtain ⟨rfl, _⟩ := h; exact rfl) | obtain ⟨_, h⟩ := h))) (fun _ _ _ _ _ _ us hl => match us, hl with | [_], _ => rfl) (t := fun E => t_Question_names K E n) (fun cdv A outer s H E hr => ?_) (fun vs H Q E h => pure_Question_names n "Opposite" (by decide) vs H Q E h)) (by omega)
  exact pss_cons (ps_set (i := 1) sc_Question_names.nd rfl (Or.inl rfl) (pe_lst (pa_nil)))
    (pss_stop (pss_cons (ps_for ownD rfl (pi_seq (pe_at (pv 0))) (pg_name (i := 2) sc_Question_names.nd rfl (Or.inl rfl)) (pss_one (ps_expr (pe_ml PySem.F.slot_list_extend PySem.F.type_list_extend m_ext (pv 1) (pa_cons (pe_dyn0 G_dyn_names (hr.mono (by omega)) passD (pv 2)) (pa_nil))))))
    (pss_stop (pss_one (ps_ret (pe_ssetS rfl T.n_sorted T.n_set (by decide +kernel) (by decide +kernel) (pv 1)))))))
theorem ok_Question_names_Surely (T : T0 P K mg) (n : Nat) (G_dyn_names : DynF P w K mg base (4 * n) csT "names" (sp_names K n)) : FR P w K mg base (4 * n + 4) (He.fAd K ("Question", some "names")) (sp_names K (n + 1) "Surely") := by
  obtain ⟨fd, F⟩ := T.F_Question_names
  refine FnR.mono (mk_fn (k := 4 * n + 3) F sc_Question_names (fun vs H Q E h => by
    revert h; intro h; (repeat (first | (obtain ⟨rfl, _⟩ := h; exact rfl) | obtain ⟨_, h⟩ := h))) (fun _ _ _ _ _ _ us hl => match us, hl with | [_], _ => rfl) (t := fun E => t_Question_names K E n) (fun cdv A outer s H E hr => ?_) (fun vs H Q E h => pure_Question_names n "Surely" (by decide) vs H Q E h)) (by omega)
  exact pss_cons (ps_set (i := 1) sc_Question_names.nd rfl (Or.inl rfl) (pe_lst (pa_nil)))
    (pss_stop (pss_cons (ps_for ownD rfl (pi_seq (pe_at (pv 0))) (pg_name (i := 2) sc_Question_names.nd rfl (Or.inl rfl)) (pss_one (ps_expr (pe_ml PySem.F.slot_list_extend PySem.F.type_list_extend m_ext (pv 1) (pa_cons (pe_dyn0 G_dyn_names (hr.mono (by omega)) passD (pv 2)) (pa_nil))))))
    (pss_stop (pss_one (ps_ret (pe_ssetS rfl T.n_sorted T.n_set (by decide +kernel) (by decide +kernel) (pv 1)))))))
theorem ok_dyn_names (T : T0 P K mg) : ∀ n, DynF P w K mg base (4 * n) csT "names" (sp_names K n)
  | 0 => by
    intro c hc
    simp only [csT, List.mem_cons, List.not_mem_nil, or_false] at hc
    rcases hc with rfl | rfl | rfl | rfl | rfl | rfl | rfl
    · exact ⟨T.D_AtMost.cl, _, T.M_AtMost_names, FR.none (sp_names_0 _)⟩
    · exact ⟨T.D_Present.cl, _, T.M_Present_names, FR.none (sp_names_0 _)⟩
    · exact ⟨T.D_HasBit.cl, _, T.M_HasBit_names, FR.none (sp_names_0 _)⟩
    · exact ⟨T.D_Both.cl, _, T.M_Both_names, FR.none (sp_names_0 _)⟩
    · exact ⟨T.D_Either.cl, _, T.M_Either_names, FR.none (sp_names_0 _)⟩
    · exact ⟨T.D_Opposite.cl, _, T.M_Opposite_names, FR.none (sp_names_0 _)⟩
    · exact ⟨T.D_Surely.cl, _, T.M_Surely_names, FR.none (sp_names_0 _)⟩
  | n + 1 => by
    have ih := ok_dyn_names T n
    intro c hc
    simp only [csT, List.mem_cons, List.not_mem_nil, or_false] at hc
    rcases hc with rfl | rfl | rfl | rfl | rfl | rfl | rfl
    · exact ⟨T.D_AtMost.cl, _, T.M_AtMost_names, FnR.mono (ok_AtMost_names_AtMost T n ih) (by omega)⟩
    · exact ⟨T.D_Present.cl, _, T.M_Present_names, FnR.mono (ok_Present_names_Present T n ih) (by omega)⟩
    · exact ⟨T.D_HasBit.cl, _, T.M_HasBit_names, FnR.mono (ok_HasBit_names_HasBit T n ih) (by omega)⟩
    · exact ⟨T.D_Both.cl, _, T.M_Both_names, by rw [T.Q_Both_names]; exact FnR.mono (ok_Question_names_Both T n ih) (by omega)⟩
    · exact ⟨T.D_Either.cl, _, T.M_Either_names, by rw [T.Q_Either_names]; exact FnR.mono (ok_Question_names_Either T n ih) (by omega)⟩
    · exact ⟨T.D_Opposite.cl, _, T.M_Opposite_names, by rw [T.Q_Opposite_names]; exact FnR.mono (ok_Question_names_Opposite T n ih) (by omega)⟩
    · exact ⟨T.D_Surely.cl, _, T.M_Surely_names, by rw [T.Q_Surely_names]; exact FnR.mono (ok_Question_names_Surely T n ih) (by omega)⟩
theorem ok__law_named (T : T0 P K mg) : FR P w K mg base 1 (He.fAd K ("_law_named", none)) (sp__law_named K) := by
  obtain ⟨fd, F⟩ := T.F__law_named
  refine mk_fn F sc__law_named (fun vs H Q E h => by
    revert h; intro h; (repeat (first | (obtain ⟨rfl, _⟩ := h; exact rfl) | obtain ⟨_, h⟩ := h))) (fun _ _ _ _ _ _ us hl => match us, hl with | [_], _ => rfl) (t := t__law_named K) (fun cdv A outer s H E hr => ?_) (fun vs H Q E h => pure__law_named vs H Q E h)
  exact pss_cons (ps_set (i := 1) sc__law_named.nd rfl (Or.inl rfl) (pe_lst (pa_nil)))
    (pss_stop (pss_cons (ps_for ownD rfl (pi_seq (pv 0)) (pg_name (i := 2) sc__law_named.nd rfl (Or.inr rfl)) (pss_cons (ps_if (PW.pt (pw_or (pt_cmp (o_eq hr.units) (pe_ix ix_any (pv 2) (pe_int) (fun _ _ => rfl)) (pe_str) (nomark _)) (pw_or1 (pt_cmp (o_eq hr.units) (pe_ix ix_any (pv 2) (pe_int) (fun _ _ => rfl)) (pe_str) (nomark _))))) (pss_one (ps_set (i := 1) sc__law_named.nd rfl (Or.inl rfl) (pe_op o_add (pe_lc (own := [("_law_name", 4)]) rfl sc__law_named.nd (pi_seq (pv 1)) (blkOk_by (own := [("_law_name", 4)]) (N := ["_law_recipe_here", "_law_found", "_law_step", "_law_term", "_law_name"]) (sc := defScope s__law_named) (by decide +kernel)) (fun _ _ _ _ _ => pg_name (i := 4) sc__law_named.nd rfl (Or.inl rfl)) (fun _ _ _ _ _ => pts_one (pt_cmp (o_ne hr.units) (pv 4) (pe_ix ix_any (pv 2) (pe_int) (fun _ _ => rfl)) (nomark _))) (fun _ _ _ _ _ => pv 4)) (pe_lst (pa_cons (pe_ix ix_any (pv 2) (pe_int) (fun _ _ => rfl)) (pa_nil)))))) (pss_nil))
    (pss_stop (pss_one (ps_if (pt_cmp (o_eq hr.units) (pe_ix ix_any (pv 2) (pe_int) (fun _ _ => rfl)) (pe_str) (nomark _)) (pss_one (ps_for ownD rfl (pi_seq (pe_ix ix_any (pv 2) (pe_int) (fun _ _ => rfl))) (pg_name (i := 3) sc__law_named.nd rfl (Or.inr rfl)) (pss_one (ps_set (i := 1) sc__law_named.nd rfl (Or.inl rfl) (pe_op o_add (pe_lc (own := [("_law_name", 4)]) rfl sc__law_named.nd (pi_seq (pv 1)) (blkOk_by (own := [("_law_name", 4)]) (N := ["_law_recipe_here", "_law_found", "_law_step", "_law_term", "_law_name"]) (sc := defScope s__law_named) (by decide +kernel)) (fun _ _ _ _ _ => pg_name (i := 4) sc__law_named.nd rfl (Or.inl rfl)) (fun _ _ _ _ _ => pts_one (pt_cmp (o_ne hr.units) (pv 4) (pe_ix ix_any (pv 3) (pe_int) (fun _ _ => rfl)) (nomark _))) (fun _ _ _ _ _ => pv 4)) (pe_lst (pa_cons (pe_ix ix_any (pv 3) (pe_int) (fun _ _ => rfl)) (pa_nil)))))))) (pss_nil))))))
    (pss_stop (pss_one (ps_ret (pe_cb (c_sortedD rfl) T.n_sorted (by decide +kernel) (pa_cons (pv 1) (pa_nil))))))))
theorem ok_all_of (T : T0 P K mg) : FR P w K mg base 9 (He.fAd K ("all_of", none)) (sp_all_of K) := by
  obtain ⟨fd, F⟩ := T.F_all_of
  have G_AtMostdd_initdd := ok_AtMostdd_initdd (P := P) (w := w) (base := base) T
  have G_Formdd_initdd_2 := ok_Formdd_initdd_2 (P := P) (w := w) (base := base) T
  have G_dynS_ddanddd := ok_dynS_ddanddd (P := P) (w := w) (base := base) T
  refine mk_fnV F sc_all_of (pure_all_of_len) (fun _ _ _ _ _ _ => rfl) (fun _ _ _ _ _ _ _ _ => rfl) (t := t_all_of K) (fun cdv A outer s H E hr => ?_) (fun vs H Q E h => pure_all_of vs H Q E h)
  exact pss_cons (ps_if (pt_cmp (o_eq hr.units) (pe_cb c_len T.n_len (by decide +kernel) (pa_cons (pv 0) (pa_nil))) (pe_int) (nomark _)) (pss_one (ps_ret (pe_giv T.D_AtMost (pe_mk T.K_AtMost G_AtMostdd_initdd (hr.mono (by decide)) T.g_AtMost passD (pa_cons (pe_giv T.C_Form (pe_mk T.K_Form G_Formdd_initdd_2 (hr.mono (by decide)) T.g_Form passD (pa_cons (pe_newK) (pa_nil)))) (pa_cons (pe_int) (pa_nil))))))) (pss_nil))
    (pss_stop (pss_cons (ps_set (i := 1) sc_all_of.nd rfl (Or.inl rfl) (pe_ix ix_any (pv 0) (pe_int) (fun _ _ => rfl)))
    (pss_stop (pss_cons (ps_for ownD rfl (pi_seq (pe_slice sl_any (pv 0) (po_some (pe_int)) (po_none))) (pg_name (i := 2) sc_all_of.nd rfl (Or.inl rfl)) (pss_one (ps_set (i := 1) sc_all_of.nd rfl (Or.inl rfl) (pe_op (op_dynB (op := .BitAnd) T.NF_and G_dynS_ddanddd (hr.mono (by decide)) passD o_and) (pv 1) (pv 2)))))
    (pss_stop (pss_one (ps_ret (pv 1))))))))
theorem ok_any_of (T : T0 P K mg) : FR P w K mg base 9 (He.fAd K ("any_of", none)) (sp_any_of K) := by
  obtain ⟨fd, F⟩ := T.F_any_of
  have G_AtMostdd_initdd := ok_AtMostdd_initdd (P := P) (w := w) (base := base) T
  have G_Formdd_initdd_2 := ok_Formdd_initdd_2 (P := P) (w := w) (base := base) T
  have G_dynS_ddordd := ok_dynS_ddordd (P := P) (w := w) (base := base) T
  refine mk_fnV F sc_any_of (pure_any_of_len) (fun _ _ _ _ _ _ => rfl) (fun _ _ _ _ _ _ _ _ => rfl) (t := t_any_of K) (fun cdv A outer s H E hr => ?_) (fun vs H Q E h => pure_any_of vs H Q E h)
  exact pss_cons (ps_if (pt_cmp (o_eq hr.units) (pe_cb c_len T.n_len (by decide +kernel) (pa_cons (pv 0) (pa_nil))) (pe_int) (nomark _)) (pss_one (ps_ret (pe_giv T.D_AtMost (pe_mk T.K_AtMost G_AtMostdd_initdd (hr.mono (by decide)) T.g_AtMost passD (pa_cons (pe_giv T.C_Form (pe_mk T.K_Form G_Formdd_initdd_2 (hr.mono (by decide)) T.g_Form passD (pa_cons (pe_newK) (pa_nil)))) (pa_cons (pe_un u_neg (pe_int)) (pa_nil))))))) (pss_nil))
    (pss_stop (pss_cons (ps_set (i := 1) sc_any_of.nd rfl (Or.inl rfl) (pe_ix ix_any (pv 0) (pe_int) (fun _ _ => rfl)))
    (pss_stop (pss_cons (ps_for ownD rfl (pi_seq (pe_slice sl_any (pv 0) (po_some (pe_int)) (po_none))) (pg_name (i := 2) sc_any_of.nd rfl (Or.inl rfl)) (pss_one (ps_set (i := 1) sc_any_of.nd rfl (Or.inl rfl) (pe_op (op_dynB (op := .BitOr) T.NF_or G_dynS_ddordd (hr.mono (by decide)) passD o_or) (pv 1) (pv 2)))))
    (pss_stop (pss_one (ps_ret (pv 1))))))))
theorem ok__law_joined (T : T0 P K mg) : FR P w K mg base 10 (He.fAd K ("_law_joined", none)) (sp__law_joined K) := by
  obtain ⟨fd, F⟩ := T.F__law_joined
  have G_all_of := ok_all_of (P := P) (w := w) (base := base) T
  have G_any_of := ok_any_of (P := P) (w := w) (base := base) T
  refine mk_fn F sc__law_joined (fun vs H Q E h => by
    revert h; intro h; (repeat (first | (obtain ⟨rfl, _⟩ := h; exact rfl) | obtain ⟨_, h⟩ := h))) (fun _ _ _ _ _ _ us hl => match us, hl with | [_, _], _ => rfl) (t := t__law_joined K) (fun cdv A outer s H E hr => ?_) (fun vs H Q E h => pure__law_joined vs H Q E h)
  exact pss_cons (ps_if (pt_of (pv 1)) (pss_cons (ps_if (pt_cmp (o_eq hr.units) (pe_cb c_len T.n_len (by decide +kernel) (pa_cons (pv 0) (pa_nil))) (pe_int) (nomark _)) (pss_one (ps_ret (pe_call0 (G_all_of) (hr.mono (by decide)) T.g_all_of T.k_all_of passD))) (pss_nil))
    (pss_cons (ps_if (pt_cmp (o_eq hr.units) (pe_cb c_len T.n_len (by decide +kernel) (pa_cons (pv 0) (pa_nil))) (pe_int) (nomark _)) (pss_one (ps_ret (pe_call (G_all_of) (hr.mono (by decide)) T.g_all_of T.k_all_of passD (pa_cons (pe_ix ix_any (pv 0) (pe_int) (fun _ _ => rfl)) (pa_nil))))) (pss_nil))
    (pss_cons (ps_if (pt_cmp (o_eq hr.units) (pe_cb c_len T.n_len (by decide +kernel) (pa_cons (pv 0) (pa_nil))) (pe_int) (nomark _)) (pss_one (ps_ret (pe_call (G_all_of) (hr.mono (by decide)) T.g_all_of T.k_all_of passD (pa_cons (pe_ix ix_any (pv 0) (pe_int) (fun _ _ => rfl)) (pa_cons (pe_ix ix_any (pv 0) (pe_int) (fun _ _ => rfl)) (pa_nil)))))) (pss_nil))
    (pss_cons (ps_if (pt_cmp (o_eq hr.units) (pe_cb c_len T.n_len (by decide +kernel) (pa_cons (pv 0) (pa_nil))) (pe_int) (nomark _)) (pss_one (ps_ret (pe_call (G_all_of) (hr.mono (by decide)) T.g_all_of T.k_all_of passD (pa_cons (pe_ix ix_any (pv 0) (pe_int) (fun _ _ => rfl)) (pa_cons (pe_ix ix_any (pv 0) (pe_int) (fun _ _ => rfl)) (pa_cons (pe_ix ix_any (pv 0) (pe_int) (fun _ _ => rfl)) (pa_nil))))))) (pss_nil))
    (pss_one (ps_ret (pe_call (G_all_of) (hr.mono (by decide)) T.g_all_of T.k_all_of passD (pa_cons (pe_ix ix_any (pv 0) (pe_int) (fun _ _ => rfl)) (pa_cons (pe_ix ix_any (pv 0) (pe_int) (fun _ _ => rfl)) (pa_cons (pe_ix ix_any (pv 0) (pe_int) (fun _ _ => rfl)) (pa_cons (pe_ix ix_any (pv 0) (pe_int) (fun _ _ => rfl)) (pa_nil)))))))))))) (pss_nil))
    (pss_stop (pss_cons (ps_if (pt_cmp (o_eq hr.units) (pe_cb c_len T.n_len (by decide +kernel) (pa_cons (pv 0) (pa_nil))) (pe_int) (nomark _)) (pss_one (ps_ret (pe_call0 (G_any_of) (hr.mono (by decide)) T.g_any_of T.k_any_of passD))) (pss_nil))
    (pss_stop (pss_cons (ps_if (pt_cmp (o_eq hr.units) (pe_cb c_len T.n_len (by decide +kernel) (pa_cons (pv 0) (pa_nil))) (pe_int) (nomark _)) (pss_one (ps_ret (pe_call (G_any_of) (hr.mono (by decide)) T.g_any_of T.k_any_of passD (pa_cons (pe_ix ix_any (pv 0) (pe_int) (fun _ _ => rfl)) (pa_nil))))) (pss_nil))
    (pss_stop (pss_cons (ps_if (pt_cmp (o_eq hr.units) (pe_cb c_len T.n_len (by decide +kernel) (pa_cons (pv 0) (pa_nil))) (pe_int) (nomark _)) (pss_one (ps_ret (pe_call (G_any_of) (hr.mono (by decide)) T.g_any_of T.k_any_of passD (pa_cons (pe_ix ix_any (pv 0) (pe_int) (fun _ _ => rfl)) (pa_cons (pe_ix ix_any (pv 0) (pe_int) (fun _ _ => rfl)) (pa_nil)))))) (pss_nil))
    (pss_stop (pss_cons (ps_if (pt_cmp (o_eq hr.units) (pe_cb c_len T.n_len (by decide +kernel) (pa_cons (pv 0) (pa_nil))) (pe_int) (nomark _)) (pss_one (ps_ret (pe_call (G_any_of) (hr.mono (by decide)) T.g_any_of T.k_any_of passD (pa_cons (pe_ix ix_any (pv 0) (pe_int) (fun _ _ => rfl)) (pa_cons (pe_ix ix_any (pv 0) (pe_int) (fun _ _ => rfl)) (pa_cons (pe_ix ix_any (pv 0) (pe_int) (fun _ _ => rfl)) (pa_nil))))))) (pss_nil))
    (pss_stop (pss_one (ps_ret (pe_call (G_any_of) (hr.mono (by decide)) T.g_any_of T.k_any_of passD (pa_cons (pe_ix ix_any (pv 0) (pe_int) (fun _ _ => rfl)) (pa_cons (pe_ix ix_any (pv 0) (pe_int) (fun _ _ => rfl)) (pa_cons (pe_ix ix_any (pv 0) (pe_int) (fun _ _ => rfl)) (pa_cons (pe_ix ix_any (pv 0) (pe_int) (fun _ _ => rfl)) (pa_nil)))))))))))))))))
theorem ok__law_is_number (T : T0 P K mg) : FR P w K mg base 1 (He.fAd K ("_law_is_number", none)) (sp__law_is_number K) := by
  obtain ⟨fd, F⟩ := T.F__law_is_number
  refine mk_fn F sc__law_is_number (fun vs H Q E h => by
    revert h; intro h; (repeat (first | (obtain ⟨rfl, _⟩ := h; exact rfl) | obtain ⟨_, h⟩ := h))) (fun _ _ _ _ _ _ us hl => match us, hl with | [_], _ => rfl) (t := t__law_is_number K) (fun cdv A outer s H E hr => ?_) (fun vs H Q E h => pure__law_is_number vs H Q E h)
  exact pss_one (ps_ret (pe_and (pe_cb c_isi T.n_isinstance (by decide +kernel) (pa_cons (pv 0) (pa_cons (pe_bt T.n_int (by decide +kernel)) (pa_nil)))) (pe_one (pe_not (pe_cb c_isi T.n_isinstance (by decide +kernel) (pa_cons (pv 0) (pa_cons (pe_bt T.n_bool (by decide +kernel)) (pa_nil))))))))
theorem ok__law_is_leaf (T : T0 P K mg) : FR P w K mg base 2 (He.fAd K ("_law_is_leaf", none)) (sp__law_is_leaf K) := by
  obtain ⟨fd, F⟩ := T.F__law_is_leaf
  have G__law_is_number := ok__law_is_number (P := P) (w := w) (base := base) T
  refine mk_fn F sc__law_is_leaf (fun vs H Q E h => by
    revert h; intro h; (repeat (first | (obtain ⟨rfl, _⟩ := h; exact rfl) | obtain ⟨_, h⟩ := h))) (fun _ _ _ _ _ _ us hl => match us, hl with | [_, _], _ => rfl) (t := t__law_is_leaf K) (fun cdv A outer s H E hr => ?_) (fun vs H Q E h => pure__law_is_leaf vs H Q E h)
  exact pss_cons (ps_if (pt_cmp (o_eq hr.units) (pe_ix ix_any (pv 1) (pe_int) (fun _ _ => rfl)) (pe_str) (nomark _)) (pss_one (ps_ret (pe_and (pe_giv T.D_Present.mf (pe_cb c_isi T.n_isinstance (by decide +kernel) (pa_cons (pv 0) (pa_cons (pe_glob (by rfl) T.g_Present rfl) (pa_nil))))) (pe_one (pe_cmp (o_eq hr.units) (pe_at (pv 0)) (pe_ix ix_any (pv 1) (pe_int) (fun _ _ => rfl)) (nomark _)))))) (pss_nil))
    (pss_stop (pss_cons (ps_if (pt_cmp (o_eq hr.units) (pe_ix ix_any (pv 1) (pe_int) (fun _ _ => rfl)) (pe_str) (nomark _)) (pss_cons (ps_if (PW.pt (pw_or (pt_not (pt_of (pe_giv T.D_HasBit.mf (pe_cb c_isi T.n_isinstance (by decide +kernel) (pa_cons (pv 0) (pa_cons (pe_glob (by rfl) T.g_HasBit rfl) (pa_nil))))))) (pw_or1 (pt_not (pt_of (pe_call (G__law_is_number) (hr.mono (by decide)) T.g__law_is_number T.k__law_is_number passD (pa_cons (pe_at (pv 0)) (pa_nil)))))))) (pss_one (ps_ret (pe_bl))) (pss_nil))
    (pss_one (ps_ret (pe_and (pe_cmp (o_eq hr.units) (pe_at (pv 0)) (pe_ix ix_any (pv 1) (pe_int) (fun _ _ => rfl)) (nomark _)) (pe_one (pe_cmp (o_eq hr.units) (pe_at (pv 0)) (pe_ix ix_any (pv 1) (pe_int) (fun _ _ => rfl)) (nomark _))))))) (pss_nil))
    (pss_stop (pss_cons (ps_if (PW.pt (pw_or (pt_not (pt_of (pe_giv T.D_AtMost.mf (pe_cb c_isi T.n_isinstance (by decide +kernel) (pa_cons (pv 0) (pa_cons (pe_glob (by rfl) T.g_AtMost rfl) (pa_nil))))))) (pw_or1 (pt_not (pt_of (pe_call (G__law_is_number) (hr.mono (by decide)) T.g__law_is_number T.k__law_is_number passD (pa_cons (pe_at (pv 0)) (pa_nil)))))))) (pss_one (ps_ret (pe_bl))) (pss_nil))
    (pss_stop (pss_cons (ps_if (PW.pt (pw_or (pt_not (pt_of (pe_cb c_isi T.n_isinstance (by decide +kernel) (pa_cons (pe_at (pv 0)) (pa_cons (pe_bt T.n_tuple (by decide +kernel)) (pa_nil)))))) (pw_or1 (pt_cmp (o_ne hr.units) (pe_at (pv 0)) (pe_ix ix_any (pv 1) (pe_int) (fun _ _ => rfl)) (nomark _))))) (pss_one (ps_ret (pe_bl))) (pss_nil))
    (pss_stop (pss_one (ps_ret (pe_cmp (o_eq hr.units) (pe_ct c_list T.n_list (by decide +kernel) (pa_cons (pe_at (pv 0)) (pa_nil))) (pe_cb (c_sortedC hr.units) T.n_sorted (by decide +kernel) (pa_cons (pe_ix ix_any (pv 1) (pe_int) (fun _ _ => rfl)) (pa_nil))) (nomark _)))))))))))
theorem ok_Form_value (T : T0 P K mg) : FR P w K mg base 1 (He.fAd K ("Form", some "value")) (sp_Form_value K) := by
  obtain ⟨fd, F⟩ := T.F_Form_value
  refine mk_fn F sc_Form_value (fun vs H Q E h => by
    revert h; intro h; (repeat (first | (obtain ⟨rfl, _⟩ := h; exact rfl) | obtain ⟨_, h⟩ := h))) (fun _ _ _ _ _ _ us hl => match us, hl with | [_, _], _ => rfl) (t := t_Form_value K) (fun cdv A outer s H E hr => ?_) (fun vs H Q E h => pure_Form_value vs H Q E h)
  exact pss_cons (ps_set (i := 2) sc_Form_value.nd rfl (Or.inl rfl) (pe_at (pv 0)))
    (pss_stop (pss_cons (ps_for ownD rfl (pi_seq (pe_at (pv 0))) (pg_tup rfl (pgs_cons (pg_name (i := 3) sc_Form_value.nd rfl (Or.inl rfl)) (pgs_cons (pg_name (i := 4) sc_Form_value.nd rfl (Or.inl rfl)) (pgs_nil)))) (pss_cons (ps_if (pt_cmp o_isN (pe_ix (ix_dict hr.units) (pv 1) (pv 3) (fun _ _ => rfl)) (pe_non) (nomark _)) (pss_one (ps_ret (pe_non))) (pss_nil))
    (pss_stop (pss_one (ps_set (i := 2) sc_Form_value.nd rfl (Or.inl rfl) (pe_op o_add (pv 2) (pe_op o_mulA (pv 4) (pe_ix (ix_dict hr.units) (pv 1) (pv 3) (fun _ _ => rfl)))))))))
    (pss_stop (pss_one (ps_ret (pv 2))))))
theorem ok_AtMost_truth_AtMost (T : T0 P K mg) (n : Nat) (G_dyn_truth : DynF P w K mg base (4 * n) csT "truth" (sp_truth K n)) : FR P w K mg base (4 * n + 4) (He.fAd K ("AtMost", some "truth")) (sp_truth K (n + 1) "AtMost") := by
  obtain ⟨fd, F⟩ := T.F_AtMost_truth
  have G_Form_value := ok_Form_value (P := P) (w := w) (base := base) T
  have G_Formdd_initdd_2 := ok_Formdd_initdd_2 (P := P) (w := w) (base := base) T
  refine FnR.mono (mk_fn (k := 4 * n + 3) F sc_AtMost_truth (fun vs H Q E h => by
    revert h; intro h; (repeat (first | (obtain ⟨rfl, _⟩ := h; exact rfl) | obtain ⟨_, h⟩ := h))) (fun _ _ _ _ _ _ us hl => match us, hl with | [_, _], _ => rfl) (t := fun E => t_AtMost_truth K E n) (fun cdv A outer s H E hr => ?_) (fun vs H Q E h => pure_AtMost_truth n vs H Q E h)) (by omega)
  exact pss_cons (ps_set (i := 2) sc_AtMost_truth.nd rfl (Or.inl rfl) (pe_meth T.C_Form.sc T.M_Form_value G_Form_value (hr.mono (by omega)) passD (pe_giv T.C_Form (pe_mk T.K_Form G_Formdd_initdd_2 (hr.mono (by omega)) T.g_Form passD (pa_cons (pe_ct (c_dict rfl) T.n_dict (by decide +kernel) (pa_cons (pe_at (pv 0)) (pa_nil))) (pa_nil)))) (pa_cons (pv 1) (pa_nil))))
    (pss_stop (pss_cons (ps_if (pt_cmp o_isN (pv 2) (pe_non) (nomark _)) (pss_one (ps_ret (pe_non))) (pss_nil))
    (pss_stop (pss_one (ps_ret (pe_cmp o_le (pv 2) (pe_at (pv 0)) (nomark _)))))))
theorem ok_Present_truth_Present (T : T0 P K mg) (n : Nat) (G_dyn_truth : DynF P w K mg base (4 * n) csT "truth" (sp_truth K n)) : FR P w K mg base (4 * n + 4) (He.fAd K ("Present", some "truth")) (sp_truth K (n + 1) "Present") := by
  obtain ⟨fd, F⟩ := T.F_Present_truth
  refine FnR.mono (mk_fn (k := 4 * n + 3) F sc_Present_truth (fun vs H Q E h => by
    revert h; intro h; (repeat (first | (obtain ⟨rfl, _⟩ := h; exact rfl) | obtain ⟨_, h⟩ := h))) (fun _ _ _ _ _ _ us hl => match us, hl with | [_, _], _ => rfl) (t := fun E => t_Present_truth K E n) (fun cdv A outer s H E hr => ?_) (fun vs H Q E h => pure_Present_truth n vs H Q E h)) (by omega)
  exact pss_one (ps_ret (pe_cmp o_notN (pe_ix (ix_dict hr.units) (pv 1) (pe_at (pv 0)) (fun _ _ => rfl)) (pe_non) (nomark _)))
theorem ok_HasBit_truth_HasBit (T : T0 P K mg) (n : Nat) (G_dyn_truth : DynF P w K mg base (4 * n) csT "truth" (sp_truth K n)) : FR P w K mg base (4 * n + 4) (He.fAd K ("HasBit", some "truth")) (sp_truth K (n + 1) "HasBit") := by
  obtain ⟨fd, F⟩ := T.F_HasBit_truth
  refine FnR.mono (mk_fn (k := 4 * n + 3) F sc_HasBit_truth (fun vs H Q E h => by
    revert h; intro h; (repeat (first | (obtain ⟨rfl, _⟩ := h; exact rfl) | obtain ⟨_, h⟩ := h))) (fun _ _ _ _ _ _ us hl => match us, hl with | [_, _], _ => rfl) (t := fun E => t_HasBit_truth K E n) (fun cdv A outer s H E hr => ?_) (fun vs H Q E h => pure_HasBit_truth n vs H Q E h)) (by omega)
  exact pss_cons (ps_if (pt_cmp o_isN (pe_ix (ix_dict hr.units) (pv 1) (pe_at (pv 0)) (fun _ _ => rfl)) (pe_non) (nomark _)) (pss_one (ps_ret (pe_non))) (pss_nil))
    (pss_stop (pss_one (ps_ret (pe_cmp (o_eq hr.units) (pe_op o_and (pe_op o_shr (pe_ix (ix_dict hr.units) (pv 1) (pe_at (pv 0)) (fun _ _ => rfl)) (pe_at (pv 0))) (pe_int)) (pe_int) (nomark _)))))
theorem ok_Surely_truth_Surely (T : T0 P K mg) (n : Nat) (G_dyn_truth : DynF P w K mg base (4 * n) csT "truth" (sp_truth K n)) : FR P w K mg base (4 * n + 4) (He.fAd K ("Surely", some "truth")) (sp_truth K (n + 1) "Surely") := by
  obtain ⟨fd, F⟩ := T.F_Surely_truth
  refine FnR.mono (mk_fn (k := 4 * n + 3) F sc_Surely_truth (fun vs H Q E h => by
    revert h; intro h; (repeat (first | (obtain ⟨rfl, _⟩ := h; exact rfl) | obtain ⟨_, h⟩ := h))) (fun _ _ _ _ _ _ us hl => match us, hl with | [_, _], _ => rfl) (t := fun E => t_Surely_truth K E n) (fun cdv A outer s H E hr => ?_) (fun vs H Q E h => pure_Surely_truth n vs H Q E h)) (by omega)
  exact pss_one (ps_ret (pe_cmp o_isT (pe_dyn G_dyn_truth (hr.mono (by omega)) passD (pe_at (pv 0)) (pa_cons (pv 1) (pa_nil))) (pe_bl) (nomark _)))
theorem ok_rank_of (T : T0 P K mg) : FR P w K mg base 1 (He.fAd K ("rank_of", none)) (sp_rank_of K) := by
  obtain ⟨fd, F⟩ := T.F_rank_of
  refine mk_fn F sc_rank_of (fun vs H Q E h => by
    revert h; intro h; (repeat (first | (obtain ⟨rfl, _⟩ := h; exact rfl) | obtain ⟨_, h⟩ := h))) (fun _ _ _ _ _ _ us hl => match us, hl with | [_], _ => rfl) (t := t_rank_of K) (fun cdv A outer s H E hr => ?_) (fun vs H Q E h => pure_rank_of vs H Q E h)
  exact pss_cons (ps_if (pt_cmp o_isN (pv 0) (pe_non) (nomark _)) (pss_one (ps_ret (pe_int))) (pss_nil))
    (pss_stop (pss_cons (ps_if (pt_of (pv 0)) (pss_one (ps_ret (pe_int))) (pss_nil))
    (pss_stop (pss_one (ps_ret (pe_int))))))
theorem ok_opposite_truth (T : T0 P K mg) : FR P w K mg base 2 (He.fAd K ("opposite_truth", none)) (sp_opposite_truth K) := by
  obtain ⟨fd, F⟩ := T.F_opposite_truth
  have G_rank_of := ok_rank_of (P := P) (w := w) (base := base) T
  refine mk_fn F sc_opposite_truth (fun vs H Q E h => by
    revert h; intro h; (repeat (first | (obtain ⟨rfl, _⟩ := h; exact rfl) | obtain ⟨_, h⟩ := h))) (fun _ _ _ _ _ _ us hl => match us, hl with | [_], _ => rfl) (t := t_opposite_truth K) (fun cdv A outer s H E hr => ?_) (fun vs H Q E h => pure_opposite_truth vs H Q E h)
  exact pss_one (ps_ret (pe_ix ix_any (pe_giv T.U_RANKED (pe_glob (by rfl) T.g_RANKED rfl)) (pe_op o_sub (pe_int) (pe_call (G_rank_of) (hr.mono (by decide)) T.g_rank_of T.k_rank_of passD (pa_cons (pv 0) (pa_nil)))) (fun _ _ => rfl)))
theorem ok_Opposite_truth_Opposite (T : T0 P K mg) (n : Nat) (G_dyn_truth : DynF P w K mg base (4 * n) csT "truth" (sp_truth K n)) : FR P w K mg base (4 * n + 4) (He.fAd K ("Opposite", some "truth")) (sp_truth K (n + 1) "Opposite") := by
  obtain ⟨fd, F⟩ := T.F_Opposite_truth
  have G_opposite_truth := ok_opposite_truth (P := P) (w := w) (base := base) T
  refine FnR.mono (mk_fn (k := 4 * n + 3) F sc_Opposite_truth (fun vs H Q E h => by
    revert h; intro h; (repeat (first | (obtain ⟨rfl, _⟩ := h; exact rfl) | obtain ⟨_, h⟩ := h))) (fun _ _ _ _ _ _ us hl => match us, hl with | [_, _], _ => rfl) (t := fun E => t_Opposite_truth K E n) (fun cdv A outer s H E hr => ?_) (fun vs H Q E h => pure_Opposite_truth n vs H Q E h)) (by omega)
  exact pss_one (ps_ret (pe_call (G_opposite_truth) (hr.mono (by omega)) T.g_opposite_truth T.k_opposite_truth passD (pa_cons (pe_dyn G_dyn_truth (hr.mono (by omega)) passD (pe_at (pv 0)) (pa_cons (pv 1) (pa_nil))) (pa_nil))))
theorem ok_either_truths (T : T0 P K mg) : FR P w K mg base 2 (He.fAd K ("either_truths", none)) (sp_either_truths K) := by
  obtain ⟨fd, F⟩ := T.F_either_truths
  have G_rank_of := ok_rank_of (P := P) (w := w) (base := base) T
  refine mk_fn F sc_either_truths (fun vs H Q E h => by
    revert h; intro h; (repeat (first | (obtain ⟨rfl, _⟩ := h; exact rfl) | obtain ⟨_, h⟩ := h))) (fun _ _ _ _ _ _ us hl => match us, hl with | [_, _], _ => rfl) (t := t_either_truths K) (fun cdv A outer s H E hr => ?_) (fun vs H Q E h => pure_either_truths vs H Q E h)
  exact pss_one (ps_ret (pe_ix ix_any (pe_giv T.U_RANKED (pe_glob (by rfl) T.g_RANKED rfl)) (pe_cb (c_max2 rfl) T.n_max (by decide +kernel) (pa_cons (pe_call (G_rank_of) (hr.mono (by decide)) T.g_rank_of T.k_rank_of passD (pa_cons (pv 0) (pa_nil))) (pa_cons (pe_call (G_rank_of) (hr.mono (by decide)) T.g_rank_of T.k_rank_of passD (pa_cons (pv 1) (pa_nil))) (pa_nil)))) (fun _ _ => rfl)))
theorem ok_Either_truth_Either (T : T0 P K mg) (n : Nat) (G_dyn_truth : DynF P w K mg base (4 * n) csT "truth" (sp_truth K n)) : FR P w K mg base (4 * n + 4) (He.fAd K ("Either", some "truth")) (sp_truth K (n + 1) "Either") := by
  obtain ⟨fd, F⟩ := T.F_Either_truth
  have G_either_truths := ok_either_truths (P := P) (w := w) (base := base) T
  refine FnR.mono (mk_fn (k := 4 * n + 3) F sc_Either_truth (fun vs H Q E h => by
    revert h; intro h; (repeat (first | (obtain ⟨rfl, _⟩ := h; exact rfl) | obtain ⟨_, h⟩ := h))) (fun _ _ _ _ _ _ us hl => match us, hl with | [_, _], _ => rfl) (t := fun E => t_Either_truth K E n) (fun cdv A outer s H E hr => ?_) (fun vs H Q E h => pure_Either_truth n vs H Q E h)) (by omega)
  exact pss_one (ps_ret (pe_call (G_either_truths) (hr.mono (by omega)) T.g_either_truths T.k_either_truths passD (pa_cons (pe_dyn G_dyn_truth (hr.mono (by omega)) passD (pe_at (pv 0)) (pa_cons (pv 1) (pa_nil))) (pa_cons (pe_dyn G_dyn_truth (hr.mono (by omega)) passD (pe_at (pv 0)) (pa_cons (pv 1) (pa_nil))) (pa_nil)))))
theorem ok_both_truths (T : T0 P K mg) : FR P w K mg base 2 (He.fAd K ("both_truths", none)) (sp_both_truths K) := by
  obtain ⟨fd, F⟩ := T.F_both_truths
  have G_rank_of := ok_rank_of (P := P) (w := w) (base := base) T
  refine mk_fn F sc_both_truths (fun vs H Q E h => by
    revert h; intro h; (repeat (first | (obtain ⟨rfl, _⟩ := h; exact rfl) | obtain ⟨_, h⟩ := h))) (fun _ _ _ _ _ _ us hl => match us, hl with | [_, _], _ => rfl) (t := t_both_truths K) (fun cdv A outer s H E hr => ?_) (fun vs H Q E h => pure_both_truths vs H Q E h)
  exact pss_one (ps_ret (pe_ix ix_any (pe_giv T.U_RANKED (pe_glob (by rfl) T.g_RANKED rfl)) (pe_cb (c_min2 rfl) T.n_min (by decide +kernel) (pa_cons (pe_call (G_rank_of) (hr.mono (by decide)) T.g_rank_of T.k_rank_of passD (pa_cons (pv 0) (pa_nil))) (pa_cons (pe_call (G_rank_of) (hr.mono (by decide)) T.g_rank_of T.k_rank_of passD (pa_cons (pv 1) (pa_nil))) (pa_nil)))) (fun _ _ => rfl)))
theorem ok_Both_truth_Both (T : T0 P K mg) (n : Nat) (G_dyn_truth : DynF P w K mg base (4 * n) csT "truth" (sp_truth K n)) : FR P w K mg base (4 * n + 4) (He.fAd K ("Both", some "truth")) (sp_truth K (n + 1) "Both") := by
  obtain ⟨fd, F⟩ := T.F_Both_truth
  have G_both_truths := ok_both_truths (P := P) (w := w) (base := base) T
  refine FnR.mono (mk_fn (k := 4 * n + 3) F sc_Both_truth (fun vs H Q E h => by
    revert h; intro h; (repeat (first | (obtain ⟨rfl, _⟩ := h; exact rfl) | obtain ⟨_, h⟩ := h))) (fun _ _ _ _ _ _ us hl => match us, hl with | [_, _], _ => rfl) (t := fun E => t_Both_truth K E n) (fun cdv A outer s H E hr => ?_) (fun vs H Q E h => pure_Both_truth n vs H Q E h)) (by omega)
  exact pss_one (ps_ret (pe_call (G_both_truths) (hr.mono (by omega)) T.g_both_truths T.k_both_truths passD (pa_cons (pe_dyn G_dyn_truth (hr.mono (by omega)) passD (pe_at (pv 0)) (pa_cons (pv 1) (pa_nil))) (pa_cons (pe_dyn G_dyn_truth (hr.mono (by omega)) passD (pe_at (pv 0)) (pa_cons (pv 1) (pa_nil))) (pa_nil)))))
theorem ok_dyn_truth (T : T0 P K mg) : ∀ n, DynF P w K mg base (4 * n) csT "truth" (sp_truth K n)
  | 0 => by
    intro c hc
    simp only [csT, List.mem_cons, List.not_mem_nil, or_false] at hc
    rcases hc with rfl | rfl | rfl | rfl | rfl | rfl | rfl
    · exact ⟨T.D_AtMost.cl, _, T.M_AtMost_truth, FR.none (sp_truth_0 _)⟩
    · exact ⟨T.D_Present.cl, _, T.M_Present_truth, FR.none (sp_truth_0 _)⟩
    · exact ⟨T.D_HasBit.cl, _, T.M_HasBit_truth, FR.none (sp_truth_0 _)⟩
    · exact ⟨T.D_Both.cl, _, T.M_Both_truth, FR.none (sp_truth_0 _)⟩
    · exact ⟨T.D_Either.cl, _, T.M_Either_truth, FR.none (sp_truth_0 _)⟩
    · exact ⟨T.D_Opposite.cl, _, T.M_Opposite_truth, FR.none (sp_truth_0 _)⟩
    · exact ⟨T.D_Surely.cl, _, T.M_Surely_truth, FR.none (sp_truth_0 _)⟩
  | n + 1 => by
    have ih := ok_dyn_truth T n
    intro c hc
    simp only [csT, List.mem_cons, List.not_mem_nil, or_false] at hc
    rcases hc with rfl | rfl | rfl | rfl | rfl | rfl | rfl
    · exact ⟨T.D_AtMost.cl, _, T.M_AtMost_truth, FnR.mono (ok_AtMost_truth_AtMost T n ih) (by omega)⟩
    · exact ⟨T.D_Present.cl, _, T.M_Present_truth, FnR.mono (ok_Present_truth_Present T n ih) (by omega)⟩
    · exact ⟨T.D_HasBit.cl, _, T.M_HasBit_truth, FnR.mono (ok_HasBit_truth_HasBit T n ih) (by omega)⟩
    · exact ⟨T.D_Both.cl, _, T.M_Both_truth, FnR.mono (ok_Both_truth_Both T n ih) (by omega)⟩
    · exact ⟨T.D_Either.cl, _, T.M_Either_truth, FnR.mono (ok_Either_truth_Either T n ih) (by omega)⟩
    · exact ⟨T.D_Opposite.cl, _, T.M_Opposite_truth, FnR.mono (ok_Opposite_truth_Opposite T n ih) (by omega)⟩
    · exact ⟨T.D_Surely.cl, _, T.M_Surely_truth, FnR.mono (ok_Surely_truth_Surely T n ih) (by omega)⟩
theorem ok__law_chain (T : T0 P K mg) : FR P w K mg base 52 (He.fAd K ("_law_chain", none)) (sp__law_chain K) := by
  obtain ⟨fd, F⟩ := T.F__law_chain
  have G__law_is_leaf := ok__law_is_leaf (P := P) (w := w) (base := base) T
  have G__law_is_number := ok__law_is_number (P := P) (w := w) (base := base) T
  have G__law_named := ok__law_named (P := P) (w := w) (base := base) T
  have G_dyn_names := ok_dyn_names (P := P) (w := w) (base := base) T nT
  have G_dyn_truth := ok_dyn_truth (P := P) (w := w) (base := base) T nT
  refine mk_fn F sc__law_chain (fun vs H Q E h => by
    revert h; intro h; (repeat (first | (obtain ⟨rfl, _⟩ := h; exact rfl) | obtain ⟨_, h⟩ := h))) (fun _ _ _ _ _ _ us hl => match us, hl with | [_, _, _], _ => rfl) (t := t__law_chain K) (fun cdv A outer s H E hr => ?_) (fun vs H Q E h => pure__law_chain vs H Q E h)
  exact pss_cons (ps_if (PW.pt (pw_or (pt_not (pt_of (pe_giv T.D_Question.mf (pe_cb c_isi T.n_isinstance (by decide +kernel) (pa_cons (pv 0) (pa_cons (pe_glob (by rfl) T.g_Question rfl) (pa_nil))))))) (pw_or1 (pt_cmp (o_ne hr.units) (pe_dyn0 G_dyn_names (hr.mono (by decide)) passD (pv 0)) (pe_call (G__law_named) (hr.mono (by decide)) T.g__law_named T.k__law_named passD (pa_cons (pv 1) (pa_nil))) (nomark _))))) (pss_one (ps_ret (pe_bl))) (pss_nil))
    (pss_stop (pss_cons (ps_set (i := 3) sc__law_chain.nd rfl (Or.inl rfl) (pv 0))
    (pss_stop (pss_cons (ps_for ownD rfl (pi_rng (by rfl) T.n_range (pa_cons (pe_op o_sub (pe_cb c_len T.n_len (by decide +kernel) (pa_cons (pv 1) (pa_nil))) (pe_int)) (pa_nil))) (pg_name (i := 4) sc__law_chain.nd rfl (Or.inl rfl)) (pss_cons (ps_if (PW.pt (pw_or (PW.pt (pw_and (pt_of (pv 2)) (pw_and1 (pt_not (pt_of (pe_giv T.D_Both.mf (pe_cb c_isi T.n_isinstance (by decide +kernel) (pa_cons (pv 3) (pa_cons (pe_glob (by rfl) T.g_Both rfl) (pa_nil)))))))))) (pw_or1 (PW.pt (pw_and (pt_not (pt_of (pv 2))) (pw_and1 (pt_not (pt_of (pe_giv T.D_Either.mf (pe_cb c_isi T.n_isinstance (by decide +kernel) (pa_cons (pv 3) (pa_cons (pe_glob (by rfl) T.g_Either rfl) (pa_nil))))))))))))) (pss_one (ps_ret (pe_bl))) (pss_nil))
    (pss_stop (pss_cons (ps_if (pt_not (pt_of (pe_call (G__law_is_leaf) (hr.mono (by decide)) T.g__law_is_leaf T.k__law_is_leaf passD (pa_cons (pe_at (pv 3)) (pa_cons (pe_ix ix_any (pv 1) (pe_op o_sub (pe_op o_sub (pe_cb c_len T.n_len (by decide +kernel) (pa_cons (pv 1) (pa_nil))) (pe_int)) (pv 4)) (fun _ _ => rfl)) (pa_nil)))))) (pss_one (ps_ret (pe_bl))) (pss_nil))
    (pss_stop (pss_one (ps_set (i := 3) sc__law_chain.nd rfl (Or.inl rfl) (pe_at (pv 3)))))))))
    (pss_stop (pss_cons (ps_if (pt_cmp o_gt (pe_cb c_len T.n_len (by decide +kernel) (pa_cons (pv 1) (pa_nil))) (pe_int) (nomark _)) (pss_one (ps_ret (pe_call (G__law_is_leaf) (hr.mono (by decide)) T.g__law_is_leaf T.k__law_is_leaf passD (pa_cons (pv 3) (pa_cons (pe_ix ix_any (pv 1) (pe_int) (fun _ _ => rfl)) (pa_nil)))))) (pss_nil))
    (pss_stop (pss_cons (ps_if (PW.pt (pw_or (pt_not (pt_of (pe_giv T.D_AtMost.mf (pe_cb c_isi T.n_isinstance (by decide +kernel) (pa_cons (pv 3) (pa_cons (pe_glob (by rfl) T.g_AtMost rfl) (pa_nil))))))) (pw_or (pt_not (pt_of (pe_cb c_isi T.n_isinstance (by decide +kernel) (pa_cons (pe_at (pv 3)) (pa_cons (pe_bt T.n_tuple (by decide +kernel)) (pa_nil)))))) (pw_or1 (pt_cmp (o_ne hr.units) (pe_cb c_len T.n_len (by decide +kernel) (pa_cons (pe_at (pv 3)) (pa_nil))) (pe_int) (nomark _)))))) (pss_one (ps_ret (pe_bl))) (pss_nil))
    (pss_stop (pss_cons (ps_if (pt_of (pv 2)) (pss_one (ps_ret (pe_and (pe_call (G__law_is_number) (hr.mono (by decide)) T.g__law_is_number T.k__law_is_number passD (pa_cons (pe_at (pv 3)) (pa_nil))) (pe_and (pe_cmp (o_eq hr.units) (pe_at (pv 3)) (pe_int) (nomark _)) (pe_one (pe_cmp o_isT (pe_dyn G_dyn_truth (hr.mono (by decide)) passD (pv 3) (pa_cons (pe_newK) (pa_nil))) (pe_bl) (nomark _))))))) (pss_nil))
    (pss_stop (pss_one (ps_ret (pe_and (pe_call (G__law_is_number) (hr.mono (by decide)) T.g__law_is_number T.k__law_is_number passD (pa_cons (pe_at (pv 3)) (pa_nil))) (pe_and (pe_cmp (o_eq hr.units) (pe_at (pv 3)) (pe_un u_neg (pe_int)) (nomark _)) (pe_one (pe_cmp o_isT (pe_dyn G_dyn_truth (hr.mono (by decide)) passD (pv 3) (pa_cons (pe_newK) (pa_nil))) (pe_bl) (nomark _))))))))))))))))))
theorem ok_law (T : T0 P K mg) {fd : FuncData} (F : FunD K "law" "law" (defArgs s_law) (defBody s_law) (defScope s_law) [] [] (He.fAd K ("law", none)) fd) : FnOk P w K mg base CX0 53 (He.fAd K ("law", none)) fd ["_law_script"] (sp_law K) := by
  have G__law_chain := ok__law_chain (P := P) (w := w) (base := base) T
  have G__law_columns := ok__law_columns (P := P) (w := w) (base := base) T
  have G__law_draw := ok__law_draw (P := P) (w := w) (base := base) T
  have G__law_joined := ok__law_joined (P := P) (w := w) (base := base) T
  have G__law_leaf := ok__law_leaf (P := P) (w := w) (base := base) T
  have G__law_named := ok__law_named (P := P) (w := w) (base := base) T
  have G__law_question := ok__law_question (P := P) (w := w) (base := base) T
  have G__law_recipe := ok__law_recipe (P := P) (w := w) (base := base) T
  have G_dyn_names := ok_dyn_names (P := P) (w := w) (base := base) T nT
  refine mk_law F sc_law (fun vs H Q E h => by
    revert h; intro h; (repeat (first | (obtain ⟨rfl, _⟩ := h; exact rfl) | obtain ⟨_, h⟩ := h))) (t := t_law K) (fun cdv A outer s H E hr => ?_) (fun vs H Q E h => pure_law vs H Q E0 h)
  exact pss_cons (ps_set (i := 1) sc_law.nd rfl (Or.inr rfl) (pe_lst (pa_cons (pe_int) (pa_cons (pe_int) (pa_cons (pe_int) (pa_cons (pe_int) (pa_nil)))))))
    (pss_stop (pss_cons (ps_set (i := 2) sc_law.nd rfl (Or.inr rfl) (pe_call (G__law_columns) (hr.mono (by decide)) T.g__law_columns T.k__law_columns passL0 (pa_cons (pv 0) (pa_cons (pv 1) (pa_cons (pe_int) (pa_nil))))))
    (pss_stop (pss_cons (ps_set (i := 3) sc_law.nd rfl (Or.inl rfl) (pe_call (G__law_recipe) (hr.mono (by decide)) T.g__law_recipe T.k__law_recipe passL0 (pa_cons (pv 0) (pa_cons (pv 1) (pa_cons (pv 2) (pa_cons (pe_int) (pa_nil)))))))
    (pss_stop (pss_cons (ps_set (i := 4) sc_law.nd rfl (Or.inl rfl) (pe_call (G__law_question) (hr.mono (by decide)) T.g__law_question T.k__law_question passL0 (pa_cons (pv 3) (pa_nil))))
    (pss_stop (pss_cons (ps_set (i := 5) sc_law.nd rfl (Or.inl rfl) (pe_dyn0 G_dyn_names (hr.mono (by decide)) passL0 (pv 4)))
    (pss_stop (pss_cons (ps_if (PW.pt (pw_or (pt_not (pt_of (pe_cb c_isi T.n_isinstance (by decide +kernel) (pa_cons (pv 5) (pa_cons (pe_bt T.n_list (by decide +kernel)) (pa_nil)))))) (pw_or1 (pt_cmp (o_ne hr.units) (pv 5) (pe_call (G__law_named) (hr.mono (by decide)) T.g__law_named T.k__law_named passL0 (pa_cons (pv 3) (pa_nil))) (nomark _))))) (pss_one (ps_ret (pe_bl))) (pss_nil))
    (pss_stop (pss_cons (ps_expr (pe_ml PySem.F.slot_list_append PySem.F.type_list_append m_app (pv 5) (pa_cons (pe_str) (pa_nil))))
    (pss_stop (pss_cons (ps_if (pt_cmp (o_ne hr.units) (pe_dyn0 G_dyn_names (hr.mono (by decide)) passL0 (pv 4)) (pe_call (G__law_named) (hr.mono (by decide)) T.g__law_named T.k__law_named passL0 (pa_cons (pv 3) (pa_nil))) (nomark _)) (pss_one (ps_ret (pe_bl))) (pss_nil))
    (pss_stop (pss_cons (ps_setLc (i := 6) (own := [("_law_k", 8)]) rfl sc_law.nd rfl rfl (sw_true rfl rfl rfl (by decide +kernel)) (pi_rng (by rfl) T.n_range (pa_cons (pe_call (G__law_draw) (hr.mono (by decide)) T.g__law_draw T.k__law_draw passL0 (pa_cons (pv 0) (pa_cons (pv 1) (pa_cons (pe_int) (pa_nil))))) (pa_nil))) (blkOk_by (own := [("_law_k", 8)]) (N := ["_law_script", "_law_state", "_law_columns_here", "_law_recipe_here", "_law_question_here", "_law_first", "_law_leaves", "_law_parts", "_law_k", "_law_leaf_here"]) (sc := defScope s_law) (by decide +kernel)) (fun _ _ _ _ _ => pg_name (i := 8) sc_law.nd rfl (Or.inl rfl)) (fun _ _ _ _ _ => pts_nil) (fun _ _ _ _ _ => pe_call (G__law_leaf) (hr.mono (by decide)) T.g__law_leaf T.k__law_leaf passL0 (pa_cons (pv 0) (pa_cons (pv 1) (pa_cons (pv 2) (pa_nil))))))
    (pss_stop (pss_cons (ps_setLc (i := 7) (own := [("_law_leaf_here", 9)]) rfl sc_law.nd rfl rfl (sw_true rfl rfl rfl (by decide +kernel)) (pi_seq (pv 6)) (blkOk_by (own := [("_law_leaf_here", 9)]) (N := ["_law_script", "_law_state", "_law_columns_here", "_law_recipe_here", "_law_question_here", "_law_first", "_law_leaves", "_law_parts", "_law_k", "_law_leaf_here"]) (sc := defScope s_law) (by decide +kernel)) (fun _ _ _ _ _ => pg_name (i := 9) sc_law.nd rfl (Or.inl rfl)) (fun _ _ _ _ _ => pts_nil) (fun _ _ _ _ _ => pe_call (G__law_question) (hr.mono (by decide)) T.g__law_question T.k__law_question passL0 (pa_cons (pe_lst (pa_cons (pv 9) (pa_nil))) (pa_nil))))
    (pss_stop (pss_cons (ps_if (PW.pt (pw_and (pt_cmp o_gt (pe_cb c_len T.n_len (by decide +kernel) (pa_cons (pv 7) (pa_nil))) (pe_int) (nomark _)) (pw_and1 (pt_cmp (o_eq hr.units) (pe_call (G__law_draw) (hr.mono (by decide)) T.g__law_draw T.k__law_draw passL0 (pa_cons (pv 0) (pa_cons (pv 1) (pa_cons (pe_int) (pa_nil))))) (pe_int) (nomark _))))) (pss_cons (ps_asg (pe_ix ix_any (pv 6) (pe_int) (fun _ _ => rfl)) (pg_sub (pv 6) (pe_un u_neg (pe_int)) s_list))
    (pss_one (ps_asg (pe_ix ix_any (pv 7) (pe_int) (fun _ _ => rfl)) (pg_sub (pv 7) (pe_un u_neg (pe_int)) s_list)))) (pss_nil))
    (pss_stop (pss_cons (ps_if (pt_not (pt_of (pe_call (G__law_chain) (hr.mono (by decide)) T.g__law_chain T.k__law_chain passL0 (pa_cons (pe_call (G__law_joined) (hr.mono (by decide)) T.g__law_joined T.k__law_joined passL0 (pa_cons (pv 7) (pa_cons (pe_bl) (pa_nil)))) (pa_cons (pv 6) (pa_cons (pe_bl) (pa_nil))))))) (pss_one (ps_ret (pe_bl))) (pss_nil))
    (pss_stop (pss_one (ps_ret (pe_call (G__law_chain) (hr.mono (by decide)) T.g__law_chain T.k__law_chain passL0 (pa_cons (pe_call (G__law_joined) (hr.mono (by decide)) T.g__law_joined T.k__law_joined passL0 (pa_cons (pv 7) (pa_cons (pe_bl) (pa_nil)))) (pa_cons (pv 6) (pa_cons (pe_bl) (pa_nil))))))))))))))))))))))))))))))
end
theorem hfacts {w : World} {K : Frag} {h : Heap} {mg : Str → Option Value} {f : Addr} (X : K.In h) (G : h.Ns mainGlobals mg) (hla : mg ("law" : Str) = some (.ref f)) (c : SaysX hfa hfx hfn K) :
    ∃ fd : FuncData, (∀ (s : Shared) (v : Value), BindsTo s fd ⟨[v], []⟩ [("_law_script", v)]) ∧ ∀ base : Heap, K.In base → base.Ns mainGlobals mg → FnOk hP w K mg base CX0 53 f fd ["_law_script"] (sp_law K) := by
  have g_AtMost := He.glo_ok X G (c.fact 0 (f := .glo "AtMost") rfl)
  have g_Both := He.glo_ok X G (c.fact 1 (f := .glo "Both") rfl)
  have g_Either := He.glo_ok X G (c.fact 2 (f := .glo "Either") rfl)
  have g_Form := He.glo_ok X G (c.fact 3 (f := .glo "Form") rfl)
  have g_HasBit := He.glo_ok X G (c.fact 4 (f := .glo "HasBit") rfl)
  have g_Opposite := He.glo_ok X G (c.fact 5 (f := .glo "Opposite") rfl)
  have g_Present := He.glo_ok X G (c.fact 6 (f := .glo "Present") rfl)
  have g_Question := He.glo_ok X G (c.fact 7 (f := .glo "Question") rfl)
  have g_RANKED := He.glo_ok X G (c.fact 8 (f := .glo "RANKED") rfl)
  have g_Surely := He.glo_ok X G (c.fact 9 (f := .glo "Surely") rfl)
  have g__law_chain := He.glo_ok X G (c.fact 10 (f := .glo "_law_chain") rfl)
  have g__law_columns := He.glo_ok X G (c.fact 11 (f := .glo "_law_columns") rfl)
  have g__law_draw := He.glo_ok X G (c.fact 12 (f := .glo "_law_draw") rfl)
  have g__law_is_leaf := He.glo_ok X G (c.fact 13 (f := .glo "_law_is_leaf") rfl)
  have g__law_is_number := He.glo_ok X G (c.fact 14 (f := .glo "_law_is_number") rfl)
  have g__law_joined := He.glo_ok X G (c.fact 15 (f := .glo "_law_joined") rfl)
  have g__law_leaf := He.glo_ok X G (c.fact 16 (f := .glo "_law_leaf") rfl)
  have g__law_named := He.glo_ok X G (c.fact 17 (f := .glo "_law_named") rfl)
  have g__law_names := He.glo_ok X G (c.fact 18 (f := .glo "_law_names") rfl)
  have g__law_number := He.glo_ok X G (c.fact 19 (f := .glo "_law_number") rfl)
  have g__law_question := He.glo_ok X G (c.fact 20 (f := .glo "_law_question") rfl)
  have g__law_recipe := He.glo_ok X G (c.fact 21 (f := .glo "_law_recipe") rfl)
  have g__law_wide := He.glo_ok X G (c.fact 22 (f := .glo "_law_wide") rfl)
  have g_all_of := He.glo_ok X G (c.fact 23 (f := .glo "all_of") rfl)
  have g_any_of := He.glo_ok X G (c.fact 24 (f := .glo "any_of") rfl)
  have g_both_truths := He.glo_ok X G (c.fact 25 (f := .glo "both_truths") rfl)
  have g_either_truths := He.glo_ok X G (c.fact 26 (f := .glo "either_truths") rfl)
  have g_law := He.glo_ok X G (c.fact 27 (f := .glo "law") rfl)
  have g_opposite_truth := He.glo_ok X G (c.fact 28 (f := .glo "opposite_truth") rfl)
  have g_rank_of := He.glo_ok X G (c.fact 29 (f := .glo "rank_of") rfl)
  have n_abs := He.free_ok X G (c.fact 30 (f := .free "abs") rfl)
  have n_bool := He.free_ok X G (c.fact 31 (f := .free "bool") rfl)
  have n_dict := He.free_ok X G (c.fact 32 (f := .free "dict") rfl)
  have n_int := He.free_ok X G (c.fact 33 (f := .free "int") rfl)
  have n_isinstance := He.free_ok X G (c.fact 34 (f := .free "isinstance") rfl)
  have n_len := He.free_ok X G (c.fact 35 (f := .free "len") rfl)
  have n_list := He.free_ok X G (c.fact 36 (f := .free "list") rfl)
  have n_max := He.free_ok X G (c.fact 37 (f := .free "max") rfl)
  have n_min := He.free_ok X G (c.fact 38 (f := .free "min") rfl)
  have n_range := He.free_ok X G (c.fact 39 (f := .free "range") rfl)
  have n_set := He.free_ok X G (c.fact 40 (f := .free "set") rfl)
  have n_sorted := He.free_ok X G (c.fact 41 (f := .free "sorted") rfl)
  have n_sum := He.free_ok X G (c.fact 42 (f := .free "sum") rfl)
  have n_super := He.free_ok X G (c.fact 43 (f := .free "super") rfl)
  have n_tuple := He.free_ok X G (c.fact 44 (f := .free "tuple") rfl)
  have K_AtMost : Mk K (He.ga K "AtMost") (He.fAd K ("AtMost", some "__init__")) := He.mkr_ok (c.fact 45 (f := .mkr "AtMost") rfl)
  have K_Both : Mk K (He.ga K "Both") (He.fAd K ("Both", some "__init__")) := He.mkr_ok (c.fact 46 (f := .mkr "Both") rfl)
  have K_Either : Mk K (He.ga K "Either") (He.fAd K ("Either", some "__init__")) := He.mkr_ok (c.fact 47 (f := .mkr "Either") rfl)
  have K_Form : Mk K (He.ga K "Form") (He.fAd K ("Form", some "__init__")) := He.mkr_ok (c.fact 48 (f := .mkr "Form") rfl)
  have K_HasBit : Mk K (He.ga K "HasBit") (He.fAd K ("HasBit", some "__init__")) := He.mkr_ok (c.fact 49 (f := .mkr "HasBit") rfl)
  have K_Opposite : Mk K (He.ga K "Opposite") (He.fAd K ("Opposite", some "__init__")) := He.mkr_ok (c.fact 50 (f := .mkr "Opposite") rfl)
  have K_Present : Mk K (He.ga K "Present") (He.fAd K ("Present", some "__init__")) := He.mkr_ok (c.fact 51 (f := .mkr "Present") rfl)
  have K_Surely : Mk K (He.ga K "Surely") (He.fAd K ("Surely", some "__init__")) := He.mkr_ok (c.fact 52 (f := .mkr "Surely") rfl)
  have M_AtMost_ddanddd : Meth K (He.ga K "AtMost") "__and__" (He.fAd K ("AtMost", some "__and__")) := He.meth_ok (c.fact 53 (f := .meth "AtMost" "__and__") rfl)
  have M_AtMost_ddinvertdd : Meth K (He.ga K "AtMost") "__invert__" (He.fAd K ("AtMost", some "__invert__")) := He.meth_ok (c.fact 54 (f := .meth "AtMost" "__invert__") rfl)
  have M_AtMost_ddordd : Meth K (He.ga K "AtMost") "__or__" (He.fAd K ("AtMost", some "__or__")) := He.meth_ok (c.fact 55 (f := .meth "AtMost" "__or__") rfl)
  have M_AtMost_names : Meth K (He.ga K "AtMost") "names" (He.fAd K ("AtMost", some "names")) := He.meth_ok (c.fact 56 (f := .meth "AtMost" "names") rfl)
  have M_AtMost_surely : Meth K (He.ga K "AtMost") "surely" (He.fAd K ("AtMost", some "surely")) := He.meth_ok (c.fact 57 (f := .meth "AtMost" "surely") rfl)
  have M_AtMost_truth : Meth K (He.ga K "AtMost") "truth" (He.fAd K ("AtMost", some "truth")) := He.meth_ok (c.fact 58 (f := .meth "AtMost" "truth") rfl)
  have M_Both_ddanddd : Meth K (He.ga K "Both") "__and__" (He.fAd K ("Both", some "__and__")) := He.meth_ok (c.fact 59 (f := .meth "Both" "__and__") rfl)
  have M_Both_ddinvertdd : Meth K (He.ga K "Both") "__invert__" (He.fAd K ("Both", some "__invert__")) := He.meth_ok (c.fact 60 (f := .meth "Both" "__invert__") rfl)
  have M_Both_ddordd : Meth K (He.ga K "Both") "__or__" (He.fAd K ("Both", some "__or__")) := He.meth_ok (c.fact 61 (f := .meth "Both" "__or__") rfl)
  have M_Both_names : Meth K (He.ga K "Both") "names" (He.fAd K ("Both", some "names")) := He.meth_ok (c.fact 62 (f := .meth "Both" "names") rfl)
  have M_Both_surely : Meth K (He.ga K "Both") "surely" (He.fAd K ("Both", some "surely")) := He.meth_ok (c.fact 63 (f := .meth "Both" "surely") rfl)
  have M_Both_truth : Meth K (He.ga K "Both") "truth" (He.fAd K ("Both", some "truth")) := He.meth_ok (c.fact 64 (f := .meth "Both" "truth") rfl)
  have M_Either_ddanddd : Meth K (He.ga K "Either") "__and__" (He.fAd K ("Either", some "__and__")) := He.meth_ok (c.fact 65 (f := .meth "Either" "__and__") rfl)
  have M_Either_ddinvertdd : Meth K (He.ga K "Either") "__invert__" (He.fAd K ("Either", some "__invert__")) := He.meth_ok (c.fact 66 (f := .meth "Either" "__invert__") rfl)
  have M_Either_ddordd : Meth K (He.ga K "Either") "__or__" (He.fAd K ("Either", some "__or__")) := He.meth_ok (c.fact 67 (f := .meth "Either" "__or__") rfl)
  have M_Either_names : Meth K (He.ga K "Either") "names" (He.fAd K ("Either", some "names")) := He.meth_ok (c.fact 68 (f := .meth "Either" "names") rfl)
  have M_Either_surely : Meth K (He.ga K "Either") "surely" (He.fAd K ("Either", some "surely")) := He.meth_ok (c.fact 69 (f := .meth "Either" "surely") rfl)
  have M_Either_truth : Meth K (He.ga K "Either") "truth" (He.fAd K ("Either", some "truth")) := He.meth_ok (c.fact 70 (f := .meth "Either" "truth") rfl)
  have M_Form_value : Meth K (He.ga K "Form") "value" (He.fAd K ("Form", some "value")) := He.meth_ok (c.fact 71 (f := .meth "Form" "value") rfl)
  have M_HasBit_ddanddd : Meth K (He.ga K "HasBit") "__and__" (He.fAd K ("HasBit", some "__and__")) := He.meth_ok (c.fact 72 (f := .meth "HasBit" "__and__") rfl)
  have M_HasBit_ddinvertdd : Meth K (He.ga K "HasBit") "__invert__" (He.fAd K ("HasBit", some "__invert__")) := He.meth_ok (c.fact 73 (f := .meth "HasBit" "__invert__") rfl)
  have M_HasBit_ddordd : Meth K (He.ga K "HasBit") "__or__" (He.fAd K ("HasBit", some "__or__")) := He.meth_ok (c.fact 74 (f := .meth "HasBit" "__or__") rfl)
  have M_HasBit_names : Meth K (He.ga K "HasBit") "names" (He.fAd K ("HasBit", some "names")) := He.meth_ok (c.fact 75 (f := .meth "HasBit" "names") rfl)
  have M_HasBit_surely : Meth K (He.ga K "HasBit") "surely" (He.fAd K ("HasBit", some "surely")) := He.meth_ok (c.fact 76 (f := .meth "HasBit" "surely") rfl)
  have M_HasBit_truth : Meth K (He.ga K "HasBit") "truth" (He.fAd K ("HasBit", some "truth")) := He.meth_ok (c.fact 77 (f := .meth "HasBit" "truth") rfl)
  have M_Opposite_ddanddd : Meth K (He.ga K "Opposite") "__and__" (He.fAd K ("Opposite", some "__and__")) := He.meth_ok (c.fact 78 (f := .meth "Opposite" "__and__") rfl)
  have M_Opposite_ddinvertdd : Meth K (He.ga K "Opposite") "__invert__" (He.fAd K ("Opposite", some "__invert__")) := He.meth_ok (c.fact 79 (f := .meth "Opposite" "__invert__") rfl)
  have M_Opposite_ddordd : Meth K (He.ga K "Opposite") "__or__" (He.fAd K ("Opposite", some "__or__")) := He.meth_ok (c.fact 80 (f := .meth "Opposite" "__or__") rfl)
  have M_Opposite_names : Meth K (He.ga K "Opposite") "names" (He.fAd K ("Opposite", some "names")) := He.meth_ok (c.fact 81 (f := .meth "Opposite" "names") rfl)
  have M_Opposite_surely : Meth K (He.ga K "Opposite") "surely" (He.fAd K ("Opposite", some "surely")) := He.meth_ok (c.fact 82 (f := .meth "Opposite" "surely") rfl)
  have M_Opposite_truth : Meth K (He.ga K "Opposite") "truth" (He.fAd K ("Opposite", some "truth")) := He.meth_ok (c.fact 83 (f := .meth "Opposite" "truth") rfl)
  have M_Present_ddanddd : Meth K (He.ga K "Present") "__and__" (He.fAd K ("Present", some "__and__")) := He.meth_ok (c.fact 84 (f := .meth "Present" "__and__") rfl)
  have M_Present_ddinvertdd : Meth K (He.ga K "Present") "__invert__" (He.fAd K ("Present", some "__invert__")) := He.meth_ok (c.fact 85 (f := .meth "Present" "__invert__") rfl)
  have M_Present_ddordd : Meth K (He.ga K "Present") "__or__" (He.fAd K ("Present", some "__or__")) := He.meth_ok (c.fact 86 (f := .meth "Present" "__or__") rfl)
  have M_Present_names : Meth K (He.ga K "Present") "names" (He.fAd K ("Present", some "names")) := He.meth_ok (c.fact 87 (f := .meth "Present" "names") rfl)
  have M_Present_surely : Meth K (He.ga K "Present") "surely" (He.fAd K ("Present", some "surely")) := He.meth_ok (c.fact 88 (f := .meth "Present" "surely") rfl)
  have M_Present_truth : Meth K (He.ga K "Present") "truth" (He.fAd K ("Present", some "truth")) := He.meth_ok (c.fact 89 (f := .meth "Present" "truth") rfl)
  have M_Surely_ddanddd : Meth K (He.ga K "Surely") "__and__" (He.fAd K ("Surely", some "__and__")) := He.meth_ok (c.fact 90 (f := .meth "Surely" "__and__") rfl)
  have M_Surely_ddinvertdd : Meth K (He.ga K "Surely") "__invert__" (He.fAd K ("Surely", some "__invert__")) := He.meth_ok (c.fact 91 (f := .meth "Surely" "__invert__") rfl)
  have M_Surely_ddordd : Meth K (He.ga K "Surely") "__or__" (He.fAd K ("Surely", some "__or__")) := He.meth_ok (c.fact 92 (f := .meth "Surely" "__or__") rfl)
  have M_Surely_names : Meth K (He.ga K "Surely") "names" (He.fAd K ("Surely", some "names")) := He.meth_ok (c.fact 93 (f := .meth "Surely" "names") rfl)
  have M_Surely_surely : Meth K (He.ga K "Surely") "surely" (He.fAd K ("Surely", some "surely")) := He.meth_ok (c.fact 94 (f := .meth "Surely" "surely") rfl)
  have M_Surely_truth : Meth K (He.ga K "Surely") "truth" (He.fAd K ("Surely", some "truth")) := He.meth_ok (c.fact 95 (f := .meth "Surely" "truth") rfl)
  have C_Form : CF K "Form" ["offset", "terms"] := cfB_ok (c.more 0 (f := cfB "Form" ["offset", "terms"]) rfl)
  have D_AtMost : DF K "AtMost" ["Question"] ["parts", "terms", "bound"] := dfB_ok (c.more 1 (f := dfB "AtMost" ["Question"] ["parts", "terms", "bound"]) rfl)
  have D_Both : DF K "Both" ["Question"] ["parts", "one", "other"] := dfB_ok (c.more 2 (f := dfB "Both" ["Question"] ["parts", "one", "other"]) rfl)
  have D_Either : DF K "Either" ["Question"] ["parts", "one", "other"] := dfB_ok (c.more 3 (f := dfB "Either" ["Question"] ["parts", "one", "other"]) rfl)
  have D_HasBit : DF K "HasBit" ["Question"] ["parts", "name", "place"] := dfB_ok (c.more 4 (f := dfB "HasBit" ["Question"] ["parts", "name", "place"]) rfl)
  have D_Opposite : DF K "Opposite" ["Question"] ["parts", "part"] := dfB_ok (c.more 5 (f := dfB "Opposite" ["Question"] ["parts", "part"]) rfl)
  have D_Present : DF K "Present" ["Question"] ["parts", "name"] := dfB_ok (c.more 6 (f := dfB "Present" ["Question"] ["parts", "name"]) rfl)
  have D_Question : DF K "Question" [] ["parts"] := dfB_ok (c.more 7 (f := dfB "Question" [] ["parts"]) rfl)
  have D_Surely : DF K "Surely" ["Question"] ["parts", "part"] := dfB_ok (c.more 8 (f := dfB "Surely" ["Question"] ["parts", "part"]) rfl)
  have NF_and : NfF K csT "and" := nfB_ok (c.more 9 (f := nfB csT "and") rfl)
  have NF_or : NfF K csT "or" := nfB_ok (c.more 10 (f := nfB csT "or") rfl)
  have Q_AtMost_ddanddd : He.fAd K ("AtMost", some "__and__") = He.fAd K ("Question", some "__and__") := of_decide_eq_true (c.more 11 (f := fun K => decide (He.fAd K ("AtMost", some "__and__") = He.fAd K ("Question", some "__and__"))) rfl)
  have Q_AtMost_ddinvertdd : He.fAd K ("AtMost", some "__invert__") = He.fAd K ("Question", some "__invert__") := of_decide_eq_true (c.more 12 (f := fun K => decide (He.fAd K ("AtMost", some "__invert__") = He.fAd K ("Question", some "__invert__"))) rfl)
  have Q_AtMost_ddordd : He.fAd K ("AtMost", some "__or__") = He.fAd K ("Question", some "__or__") := of_decide_eq_true (c.more 13 (f := fun K => decide (He.fAd K ("AtMost", some "__or__") = He.fAd K ("Question", some "__or__"))) rfl)
  have Q_AtMost_surely : He.fAd K ("AtMost", some "surely") = He.fAd K ("Question", some "surely") := of_decide_eq_true (c.more 14 (f := fun K => decide (He.fAd K ("AtMost", some "surely") = He.fAd K ("Question", some "surely"))) rfl)
  have Q_Both_ddanddd : He.fAd K ("Both", some "__and__") = He.fAd K ("Question", some "__and__") := of_decide_eq_true (c.more 15 (f := fun K => decide (He.fAd K ("Both", some "__and__") = He.fAd K ("Question", some "__and__"))) rfl)
  have Q_Both_ddinvertdd : He.fAd K ("Both", some "__invert__") = He.fAd K ("Question", some "__invert__") := of_decide_eq_true (c.more 16 (f := fun K => decide (He.fAd K ("Both", some "__invert__") = He.fAd K ("Question", some "__invert__"))) rfl)
  have Q_Both_ddordd : He.fAd K ("Both", some "__or__") = He.fAd K ("Question", some "__or__") := of_decide_eq_true (c.more 17 (f := fun K => decide (He.fAd K ("Both", some "__or__") = He.fAd K ("Question", some "__or__"))) rfl)
  have Q_Both_names : He.fAd K ("Both", some "names") = He.fAd K ("Question", some "names") := of_decide_eq_true (c.more 18 (f := fun K => decide (He.fAd K ("Both", some "names") = He.fAd K ("Question", some "names"))) rfl)
  have Q_Both_surely : He.fAd K ("Both", some "surely") = He.fAd K ("Question", some "surely") := of_decide_eq_true (c.more 19 (f := fun K => decide (He.fAd K ("Both", some "surely") = He.fAd K ("Question", some "surely"))) rfl)
  have Q_Either_ddanddd : He.fAd K ("Either", some "__and__") = He.fAd K ("Question", some "__and__") := of_decide_eq_true (c.more 20 (f := fun K => decide (He.fAd K ("Either", some "__and__") = He.fAd K ("Question", some "__and__"))) rfl)
  have Q_Either_ddinvertdd : He.fAd K ("Either", some "__invert__") = He.fAd K ("Question", some "__invert__") := of_decide_eq_true (c.more 21 (f := fun K => decide (He.fAd K ("Either", some "__invert__") = He.fAd K ("Question", some "__invert__"))) rfl)
  have Q_Either_ddordd : He.fAd K ("Either", some "__or__") = He.fAd K ("Question", some "__or__") := of_decide_eq_true (c.more 22 (f := fun K => decide (He.fAd K ("Either", some "__or__") = He.fAd K ("Question", some "__or__"))) rfl)
  have Q_Either_names : He.fAd K ("Either", some "names") = He.fAd K ("Question", some "names") := of_decide_eq_true (c.more 23 (f := fun K => decide (He.fAd K ("Either", some "names") = He.fAd K ("Question", some "names"))) rfl)
  have Q_Either_surely : He.fAd K ("Either", some "surely") = He.fAd K ("Question", some "surely") := of_decide_eq_true (c.more 24 (f := fun K => decide (He.fAd K ("Either", some "surely") = He.fAd K ("Question", some "surely"))) rfl)
  have Q_HasBit_ddanddd : He.fAd K ("HasBit", some "__and__") = He.fAd K ("Question", some "__and__") := of_decide_eq_true (c.more 25 (f := fun K => decide (He.fAd K ("HasBit", some "__and__") = He.fAd K ("Question", some "__and__"))) rfl)
  have Q_HasBit_ddinvertdd : He.fAd K ("HasBit", some "__invert__") = He.fAd K ("Question", some "__invert__") := of_decide_eq_true (c.more 26 (f := fun K => decide (He.fAd K ("HasBit", some "__invert__") = He.fAd K ("Question", some "__invert__"))) rfl)
  have Q_HasBit_ddordd : He.fAd K ("HasBit", some "__or__") = He.fAd K ("Question", some "__or__") := of_decide_eq_true (c.more 27 (f := fun K => decide (He.fAd K ("HasBit", some "__or__") = He.fAd K ("Question", some "__or__"))) rfl)
  have Q_HasBit_surely : He.fAd K ("HasBit", some "surely") = He.fAd K ("Question", some "surely") := of_decide_eq_true (c.more 28 (f := fun K => decide (He.fAd K ("HasBit", some "surely") = He.fAd K ("Question", some "surely"))) rfl)
  have Q_Opposite_ddanddd : He.fAd K ("Opposite", some "__and__") = He.fAd K ("Question", some "__and__") := of_decide_eq_true (c.more 29 (f := fun K => decide (He.fAd K ("Opposite", some "__and__") = He.fAd K ("Question", some "__and__"))) rfl)
  have Q_Opposite_ddinvertdd : He.fAd K ("Opposite", some "__invert__") = He.fAd K ("Question", some "__invert__") := of_decide_eq_true (c.more 30 (f := fun K => decide (He.fAd K ("Opposite", some "__invert__") = He.fAd K ("Question", some "__invert__"))) rfl)
  have Q_Opposite_ddordd : He.fAd K ("Opposite", some "__or__") = He.fAd K ("Question", some "__or__") := of_decide_eq_true (c.more 31 (f := fun K => decide (He.fAd K ("Opposite", some "__or__") = He.fAd K ("Question", some "__or__"))) rfl)
  have Q_Opposite_names : He.fAd K ("Opposite", some "names") = He.fAd K ("Question", some "names") := of_decide_eq_true (c.more 32 (f := fun K => decide (He.fAd K ("Opposite", some "names") = He.fAd K ("Question", some "names"))) rfl)
  have Q_Opposite_surely : He.fAd K ("Opposite", some "surely") = He.fAd K ("Question", some "surely") := of_decide_eq_true (c.more 33 (f := fun K => decide (He.fAd K ("Opposite", some "surely") = He.fAd K ("Question", some "surely"))) rfl)
  have Q_Present_ddanddd : He.fAd K ("Present", some "__and__") = He.fAd K ("Question", some "__and__") := of_decide_eq_true (c.more 34 (f := fun K => decide (He.fAd K ("Present", some "__and__") = He.fAd K ("Question", some "__and__"))) rfl)
  have Q_Present_ddinvertdd : He.fAd K ("Present", some "__invert__") = He.fAd K ("Question", some "__invert__") := of_decide_eq_true (c.more 35 (f := fun K => decide (He.fAd K ("Present", some "__invert__") = He.fAd K ("Question", some "__invert__"))) rfl)
  have Q_Present_ddordd : He.fAd K ("Present", some "__or__") = He.fAd K ("Question", some "__or__") := of_decide_eq_true (c.more 36 (f := fun K => decide (He.fAd K ("Present", some "__or__") = He.fAd K ("Question", some "__or__"))) rfl)
  have Q_Present_surely : He.fAd K ("Present", some "surely") = He.fAd K ("Question", some "surely") := of_decide_eq_true (c.more 37 (f := fun K => decide (He.fAd K ("Present", some "surely") = He.fAd K ("Question", some "surely"))) rfl)
  have Q_Surely_ddanddd : He.fAd K ("Surely", some "__and__") = He.fAd K ("Question", some "__and__") := of_decide_eq_true (c.more 38 (f := fun K => decide (He.fAd K ("Surely", some "__and__") = He.fAd K ("Question", some "__and__"))) rfl)
  have Q_Surely_ddinvertdd : He.fAd K ("Surely", some "__invert__") = He.fAd K ("Question", some "__invert__") := of_decide_eq_true (c.more 39 (f := fun K => decide (He.fAd K ("Surely", some "__invert__") = He.fAd K ("Question", some "__invert__"))) rfl)
  have Q_Surely_ddordd : He.fAd K ("Surely", some "__or__") = He.fAd K ("Question", some "__or__") := of_decide_eq_true (c.more 40 (f := fun K => decide (He.fAd K ("Surely", some "__or__") = He.fAd K ("Question", some "__or__"))) rfl)
  have Q_Surely_names : He.fAd K ("Surely", some "names") = He.fAd K ("Question", some "names") := of_decide_eq_true (c.more 41 (f := fun K => decide (He.fAd K ("Surely", some "names") = He.fAd K ("Question", some "names"))) rfl)
  have Q_Surely_surely : He.fAd K ("Surely", some "surely") = He.fAd K ("Question", some "surely") := of_decide_eq_true (c.more 42 (f := fun K => decide (He.fAd K ("Surely", some "surely") = He.fAd K ("Question", some "surely"))) rfl)
  have U_RANKED : TupG K "RANKED" [V.bl false, V.non, V.bl true] := tupG_ok (vs := [.bl false, .non, .bl true]) (c.more 43 (f := fun K => He.tupB K "RANKED" [.bl false, .non, .bl true]) rfl)
  have S_AtMostdd_initdd : SupF hP K "AtMost" (He.fAd K ("Question", some "__init__")) "__init__" "AtMost.__init__" (defArgs s_AtMostdd_initdd) (defBody s_AtMostdd_initdd) (defScope s_AtMostdd_initdd) (He.fAd K ("AtMost", some "__init__")) := sup_of (c.fnv 19 (d := ⟨fun K => He.fAd K ("AtMost", some "__init__"), "__init__", "AtMost.__init__", defArgs s_AtMostdd_initdd, defBody s_AtMostdd_initdd, defScope s_AtMostdd_initdd, [], [], ["__class__"]⟩) rfl) (c.more 44 (f := supB hP "AtMost" "Question") rfl)
  have S_Bothdd_initdd : SupF hP K "Both" (He.fAd K ("Question", some "__init__")) "__init__" "Both.__init__" (defArgs s_Bothdd_initdd) (defBody s_Bothdd_initdd) (defScope s_Bothdd_initdd) (He.fAd K ("Both", some "__init__")) := sup_of (c.fnv 8 (d := ⟨fun K => He.fAd K ("Both", some "__init__"), "__init__", "Both.__init__", defArgs s_Bothdd_initdd, defBody s_Bothdd_initdd, defScope s_Bothdd_initdd, [], [], ["__class__"]⟩) rfl) (c.more 45 (f := supB hP "Both" "Question") rfl)
  have S_Eitherdd_initdd : SupF hP K "Either" (He.fAd K ("Question", some "__init__")) "__init__" "Either.__init__" (defArgs s_Eitherdd_initdd) (defBody s_Eitherdd_initdd) (defScope s_Eitherdd_initdd) (He.fAd K ("Either", some "__init__")) := sup_of (c.fnv 10 (d := ⟨fun K => He.fAd K ("Either", some "__init__"), "__init__", "Either.__init__", defArgs s_Eitherdd_initdd, defBody s_Eitherdd_initdd, defScope s_Eitherdd_initdd, [], [], ["__class__"]⟩) rfl) (c.more 46 (f := supB hP "Either" "Question") rfl)
  have S_HasBitdd_initdd : SupF hP K "HasBit" (He.fAd K ("Question", some "__init__")) "__init__" "HasBit.__init__" (defArgs s_HasBitdd_initdd) (defBody s_HasBitdd_initdd) (defScope s_HasBitdd_initdd) (He.fAd K ("HasBit", some "__init__")) := sup_of (c.fnv 17 (d := ⟨fun K => He.fAd K ("HasBit", some "__init__"), "__init__", "HasBit.__init__", defArgs s_HasBitdd_initdd, defBody s_HasBitdd_initdd, defScope s_HasBitdd_initdd, [], [], ["__class__"]⟩) rfl) (c.more 47 (f := supB hP "HasBit" "Question") rfl)
  have S_Oppositedd_initdd : SupF hP K "Opposite" (He.fAd K ("Question", some "__init__")) "__init__" "Opposite.__init__" (defArgs s_Oppositedd_initdd) (defBody s_Oppositedd_initdd) (defScope s_Oppositedd_initdd) (He.fAd K ("Opposite", some "__init__")) := sup_of (c.fnv 12 (d := ⟨fun K => He.fAd K ("Opposite", some "__init__"), "__init__", "Opposite.__init__", defArgs s_Oppositedd_initdd, defBody s_Oppositedd_initdd, defScope s_Oppositedd_initdd, [], [], ["__class__"]⟩) rfl) (c.more 48 (f := supB hP "Opposite" "Question") rfl)
  have S_Presentdd_initdd : SupF hP K "Present" (He.fAd K ("Question", some "__init__")) "__init__" "Present.__init__" (defArgs s_Presentdd_initdd) (defBody s_Presentdd_initdd) (defScope s_Presentdd_initdd) (He.fAd K ("Present", some "__init__")) := sup_of (c.fnv 16 (d := ⟨fun K => He.fAd K ("Present", some "__init__"), "__init__", "Present.__init__", defArgs s_Presentdd_initdd, defBody s_Presentdd_initdd, defScope s_Presentdd_initdd, [], [], ["__class__"]⟩) rfl) (c.more 49 (f := supB hP "Present" "Question") rfl)
  have S_Surelydd_initdd : SupF hP K "Surely" (He.fAd K ("Question", some "__init__")) "__init__" "Surely.__init__" (defArgs s_Surelydd_initdd) (defBody s_Surelydd_initdd) (defScope s_Surelydd_initdd) (He.fAd K ("Surely", some "__init__")) := sup_of (c.fnv 14 (d := ⟨fun K => He.fAd K ("Surely", some "__init__"), "__init__", "Surely.__init__", defArgs s_Surelydd_initdd, defBody s_Surelydd_initdd, defScope s_Surelydd_initdd, [], [], ["__class__"]⟩) rfl) (c.more 50 (f := supB hP "Surely" "Question") rfl)
  have F__law_draw := c.def_ 0 rfl
  have F__law_names := c.def_ 1 rfl
  have F__law_columns := c.def_ 2 rfl
  have F__law_wide := c.def_ 3 rfl
  have F__law_number := c.def_ 4 rfl
  have F__law_leaf := c.def_ 5 rfl
  have F__law_recipe := c.def_ 6 rfl
  have F_Questiondd_initdd := c.def_ 7 rfl
  have F_Questiondd_anddd := c.def_ 9 rfl
  have F_Questiondd_ordd := c.def_ 11 rfl
  have F_Questiondd_invertdd := c.def_ 13 rfl
  have F_Question_surely := c.def_ 15 rfl
  have F_Formdd_initdd := c.def_ 18 rfl
  have F__law_question := c.def_ 20 rfl
  have F_AtMost_names := c.def_ 21 rfl
  have F_Present_names := c.def_ 22 rfl
  have F_HasBit_names := c.def_ 23 rfl
  have F_Question_names := c.def_ 24 rfl
  have F__law_named := c.def_ 25 rfl
  have F_all_of := c.def_ 26 rfl
  have F_any_of := c.def_ 27 rfl
  have F__law_joined := c.def_ 28 rfl
  have F__law_is_number := c.def_ 29 rfl
  have F__law_is_leaf := c.def_ 30 rfl
  have F_Form_value := c.def_ 31 rfl
  have F_AtMost_truth := c.def_ 32 rfl
  have F_Present_truth := c.def_ 33 rfl
  have F_HasBit_truth := c.def_ 34 rfl
  have F_Surely_truth := c.def_ 35 rfl
  have F_rank_of := c.def_ 36 rfl
  have F_opposite_truth := c.def_ 37 rfl
  have F_Opposite_truth := c.def_ 38 rfl
  have F_either_truths := c.def_ 39 rfl
  have F_Either_truth := c.def_ 40 rfl
  have F_both_truths := c.def_ 41 rfl
  have F_Both_truth := c.def_ 42 rfl
  have F__law_chain := c.def_ 43 rfl
  have F_law := c.def_ 44 rfl
  have T : T0 hP K mg := ⟨n_abs, n_bool, n_dict, n_int, n_isinstance, n_len, n_list, n_max, n_min, n_range, n_set, n_sorted, n_sum, n_super, n_tuple, g_AtMost, g_Both, g_Either, g_Form, g_HasBit, g_Opposite, g_Present, g_Question, g_RANKED, g_Surely, g__law_chain, g__law_columns, g__law_draw, g__law_is_leaf, g__law_is_number, g__law_joined, g__law_leaf, g__law_named, g__law_names, g__law_number, g__law_question, g__law_recipe, g__law_wide, g_all_of, g_any_of, g_both_truths, g_either_truths, g_law, g_opposite_truth, g_rank_of, F__law_draw, (let ⟨_, F⟩ := F__law_draw; F.kp), F__law_names, (let ⟨_, F⟩ := F__law_names; F.kp), F__law_columns, (let ⟨_, F⟩ := F__law_columns; F.kp), F__law_wide, (let ⟨_, F⟩ := F__law_wide; F.kp), F__law_number, (let ⟨_, F⟩ := F__law_number; F.kp), F__law_leaf, (let ⟨_, F⟩ := F__law_leaf; F.kp), F__law_recipe, (let ⟨_, F⟩ := F__law_recipe; F.kp), F_Questiondd_initdd, (let ⟨_, F⟩ := F_Questiondd_initdd; F.kp), F_Questiondd_anddd, (let ⟨_, F⟩ := F_Questiondd_anddd; F.kp), F_Questiondd_ordd, (let ⟨_, F⟩ := F_Questiondd_ordd; F.kp), F_Questiondd_invertdd, (let ⟨_, F⟩ := F_Questiondd_invertdd; F.kp), F_Question_surely, (let ⟨_, F⟩ := F_Question_surely; F.kp), F_Formdd_initdd, (let ⟨_, F⟩ := F_Formdd_initdd; F.kp), F__law_question, (let ⟨_, F⟩ := F__law_question; F.kp), F_AtMost_names, (let ⟨_, F⟩ := F_AtMost_names; F.kp), F_Present_names, (let ⟨_, F⟩ := F_Present_names; F.kp), F_HasBit_names, (let ⟨_, F⟩ := F_HasBit_names; F.kp), F_Question_names, (let ⟨_, F⟩ := F_Question_names; F.kp), F__law_named, (let ⟨_, F⟩ := F__law_named; F.kp), F_all_of, (let ⟨_, F⟩ := F_all_of; F.kp), F_any_of, (let ⟨_, F⟩ := F_any_of; F.kp), F__law_joined, (let ⟨_, F⟩ := F__law_joined; F.kp), F__law_is_number, (let ⟨_, F⟩ := F__law_is_number; F.kp), F__law_is_leaf, (let ⟨_, F⟩ := F__law_is_leaf; F.kp), F_Form_value, (let ⟨_, F⟩ := F_Form_value; F.kp), F_AtMost_truth, (let ⟨_, F⟩ := F_AtMost_truth; F.kp), F_Present_truth, (let ⟨_, F⟩ := F_Present_truth; F.kp), F_HasBit_truth, (let ⟨_, F⟩ := F_HasBit_truth; F.kp), F_Surely_truth, (let ⟨_, F⟩ := F_Surely_truth; F.kp), F_rank_of, (let ⟨_, F⟩ := F_rank_of; F.kp), F_opposite_truth, (let ⟨_, F⟩ := F_opposite_truth; F.kp), F_Opposite_truth, (let ⟨_, F⟩ := F_Opposite_truth; F.kp), F_either_truths, (let ⟨_, F⟩ := F_either_truths; F.kp), F_Either_truth, (let ⟨_, F⟩ := F_Either_truth; F.kp), F_both_truths, (let ⟨_, F⟩ := F_both_truths; F.kp), F_Both_truth, (let ⟨_, F⟩ := F_Both_truth; F.kp), F__law_chain, (let ⟨_, F⟩ := F__law_chain; F.kp), F_law, (let ⟨_, F⟩ := F_law; F.kp), C_Form, D_AtMost, D_Both, D_Either, D_HasBit, D_Opposite, D_Present, D_Question, D_Surely, K_AtMost, K_Both, K_Either, K_Form, K_HasBit, K_Opposite, K_Present, K_Surely, M_AtMost_ddanddd, M_AtMost_ddinvertdd, M_AtMost_ddordd, M_AtMost_names, M_AtMost_surely, M_AtMost_truth, M_Both_ddanddd, M_Both_ddinvertdd, M_Both_ddordd, M_Both_names, M_Both_surely, M_Both_truth, M_Either_ddanddd, M_Either_ddinvertdd, M_Either_ddordd, M_Either_names, M_Either_surely, M_Either_truth, M_Form_value, M_HasBit_ddanddd, M_HasBit_ddinvertdd, M_HasBit_ddordd, M_HasBit_names, M_HasBit_surely, M_HasBit_truth, M_Opposite_ddanddd, M_Opposite_ddinvertdd, M_Opposite_ddordd, M_Opposite_names, M_Opposite_surely, M_Opposite_truth, M_Present_ddanddd, M_Present_ddinvertdd, M_Present_ddordd, M_Present_names, M_Present_surely, M_Present_truth, M_Surely_ddanddd, M_Surely_ddinvertdd, M_Surely_ddordd, M_Surely_names, M_Surely_surely, M_Surely_truth, NF_and, NF_or, Q_AtMost_ddanddd, Q_AtMost_ddinvertdd, Q_AtMost_ddordd, Q_AtMost_surely, Q_Both_ddanddd, Q_Both_ddinvertdd, Q_Both_ddordd, Q_Both_names, Q_Both_surely, Q_Either_ddanddd, Q_Either_ddinvertdd, Q_Either_ddordd, Q_Either_names, Q_Either_surely, Q_HasBit_ddanddd, Q_HasBit_ddinvertdd, Q_HasBit_ddordd, Q_HasBit_surely, Q_Opposite_ddanddd, Q_Opposite_ddinvertdd, Q_Opposite_ddordd, Q_Opposite_names, Q_Opposite_surely, Q_Present_ddanddd, Q_Present_ddinvertdd, Q_Present_ddordd, Q_Present_surely, Q_Surely_ddanddd, Q_Surely_ddinvertdd, Q_Surely_ddordd, Q_Surely_names, Q_Surely_surely, S_AtMostdd_initdd, S_Bothdd_initdd, S_Eitherdd_initdd, S_HasBitdd_initdd, S_Oppositedd_initdd, S_Presentdd_initdd, S_Surelydd_initdd, U_RANKED⟩
  obtain ⟨fd, F⟩ := F_law
  have e := hla.symm.trans g_law
  cases e
  have b := FunD.bindsA (ps := ["_law_script"]) F fun _ _ _ _ _ _ us hl => match us, hl with | [_], _ => rfl
  exact ⟨fd, fun s v => b s [v] rfl, fun base _ _ => ok_law T F⟩
end S
open PySem PySem.W PySem.Calls PyProof.Rows
theorem PySem.Challenge.cw_slicedcolumns_k41_names_all_any_holds : PySem.Challenge.rw_slicedcolumns_k41_names_all_any.Holds := by
  w_on; o_law
  refine HandSHeadRun.head_any (r := OpenLaw.row PySem.Challenge.rw_slicedcolumns_k41_names_all_any) (q := view (OpenLaw.row PySem.Challenge.rw_slicedcolumns_k41_names_all_any).prog [32]) (H := S.hhk) (ob := S.hob) (M := 16000) (loose := S.hloose) (d := HandSHeadRun.topDef (OpenLaw.row PySem.Challenge.rw_slicedcolumns_k41_names_all_any).prog 32) (kwd := []) S.hob_eq
    (by kernel_rfl) (fun s => by kernel_rfl) S.hrun (by kernel_rfl) (by kernel_rfl) (by kernel_rfl) (by rfl) (by first | assumption | decide +kernel) (by decide +kernel) ⟨rfl, rfl, rfl, rfl, rfl, by decide +kernel⟩ ?hw ?hc
  case hw => w_witness2
  case hc =>
    refine L2.walk_ofE (l := PySem.Challenge.rw_slicedcolumns_k41_names_all_any) (n := 63) (k := 53) (x := "_law_script") (CX := L2.CX0) rfl (by decide) (by kernel_rfl) ⟨rfl, by decide, by decide⟩ ?F (fun _ _ _ _ z => z)
    intro w mg fa h Y G hmg0
    obtain ⟨K, KX, c⟩ := Y
    have hmg : mg ("law" : PySem.Str) = some (.ref fa) := by
      have e : (HandSHeadRun.topDef (OpenLaw.row PySem.Challenge.rw_slicedcolumns_k41_names_all_any).prog 32).name = ("law" : PySem.Str) := by kernel_rfl
      rw [← e]
      exact hmg0
    obtain ⟨fd, hb, hF⟩ := S.hfacts (w := w) KX G hmg c
    exact ⟨K, fd, S.sp_law K, KX, hb, fun H a ns hl _ hS => ⟨a, ns, rfl, hS, fun _ => rfl⟩, hF⟩
